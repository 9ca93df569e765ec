import PyProof.Rows.All
import HandS.ForMost
import HandS.ForExc
import KE.SortData
import HandS.TupAny
import HandS.Zip
import HandS.SetKeys
import HandS.Deep
import HandS.IsInst
import HandS.Conv
import HandS.Flow
import HandS.Style
import HandS.Defaults
import KE.KDictPairs
import KE.KDictLaws
import HandS.ExcInit
import HandS.ExcField
import HandS.More
import HandS.Codes
import HandS.HeadHook1
import HandS.HeadHook2
import HandS.HeadHook4
import HandS.Wide
import HandS.Walk
import PySem.Challenge.RW_readorder_k89_whole_any_order_of_adding
import HandS.Head0
import HandS.Head1
import HandS.Head2
import HandS.HeadEnd
/-! text G1 -/
set_option Elab.async false
set_option linter.all false
set_option maxRecDepth 100000
set_option maxHeartbeats 1000000
/-! Sorting lists and tuples of tuple data, an empty tuple among them allowed. -/
namespace RO
open PySem PySem.W PySem.Calls PyProof.Rows PySem.SeqAt

/-- first items, where there are any -/
def Firsts (h : Heap) : List Value → List (Option Value) → Prop
  | [], [] => True
  | v :: vs, f :: fs => (∃ a o xs n, v = .ref a ∧ h.get? a = some o ∧ o.cls = .type "tuple" ∧ o.data = .seq xs n ∧ xs[0]? = f) ∧ Firsts h vs fs
  | _, _ => False

section
variable {M : Model} {A : Around} {E : Value → Shared → Prop} {s : Shared}
theorem mapM_firsts : ∀ (vs : List Value) (fs : List (Option Value)) {Q : List (Option Value) → Shared → Prop}, Firsts s.heap vs fs → Q fs s → wpAny M A (vs.mapM firstOfTuple') Q E s
  | [], [], _, _, q => by rw [List.mapM_nil]; exact wpAny_pure q
  | [], _ :: _, _, t, _ => t.elim
  | _ :: _, [], _, t, _ => t.elim
  | v :: vs, f :: fs, Q, t, q => by
    obtain ⟨⟨a, o, xs, n, rfl, g1, g2, g3, g4⟩, t⟩ := t
    subst g4
    rw [List.mapM_cons, kas_first_eq]
    have lk : Looks M s.heap (typeOf (.ref a)) o.cls := (Looks.ld g1).andThen .now
    refine wpAny_bind (wpAny_bind (lk.here ?_))
    rw [g2, if_neg (by first | decide | simp)]
    refine wpAny_bind (listItems_at g1 g3 (wpAny_pure ?_))
    exact wpAny_bind (mapM_firsts vs fs (Q := fun bs s' => wpAny M A (pure (xs[0]? :: bs)) Q E s') t (wpAny_pure q))
theorem firsts_len : ∀ {h : Heap} {vs : List Value} {fs : List (Option Value)}, Firsts h vs fs → vs.length = fs.length
  | _, [], [], _ => rfl
  | _, [], _ :: _, t => t.elim
  | _, _ :: _, [], t => t.elim
  | _, _ :: vs, _ :: fs, t => by rw [List.length_cons, List.length_cons, firsts_len t.2]
theorem firsts_ty : ∀ {h : Heap} {vs : List Value} {fs : List (Option Value)}, Firsts h vs fs → ∀ v ∈ vs, Looks M h (typeOf v) (.type "tuple")
  | _, [], [], _, _, hv => nomatch hv
  | _, [], _ :: _, t, _, _ => t.elim
  | _, _ :: _, [], t, _, _ => t.elim
  | h, w :: vs, f :: fs, t, v, hv => by
    rcases List.mem_cons.mp hv with rfl | hv
    · obtain ⟨a, o, xs, n, rfl, g1, g2, _, _⟩ := t.1
      exact g2 ▸ ((Looks.ld g1).andThen .now : Looks M h (typeOf (.ref a)) o.cls)
    · exact firsts_ty t.2 v hv
/-- the kind of keys where an empty tuple is among them -/
theorem kind_some_empty {vs : List Value} {fs : List (Option Value)} {Q : SortKind → Shared → Prop} (t : Firsts s.heap vs fs) (he : none ∈ fs) (q : Q (if ((fs.toArray[0]?.bind id).isSome) = true then general' else oneType') s) : wpAny M A (keyKind' vs.toArray) Q E s := by
  have hl := firsts_len t
  rw [keyKind'_eq, List.mapM_toArray, map_eq_pure_bind]
  refine wpAny_bind (wpAny_bind (mapM_firsts vs fs t (wpAny_pure ?_)))
  have hn : ¬ ((fs.toArray.all fun x => x.isSome) = true) := by
    intro z
    rw [List.all_toArray, List.all_eq_true] at z
    exact absurd (z none he) (by simp)
  rw [if_neg hn]
  by_cases h1 : ((fs.toArray[0]?.bind id).isSome) = true
  · rw [if_pos h1] at q ⊢
    exact wpAny_pure q
  · rw [if_neg h1] at q
    rw [if_neg h1, oneTypeOnly'_eq, List.mapM_toArray, map_eq_pure_bind]
    refine wpAny_bind (wpAny_bind (wpAny_bind (kas_mapM (r := Value.type "tuple") _ (fun v hv Q' z => (firsts_ty t v hv).here z) (wpAny_pure ?_))))
    cases vs with
    | nil =>
      cases fs with
      | nil => cases he
      | cons _ _ => exact t.elim
    | cons v vs =>
      have e0 : (List.map (fun _ => Value.type "tuple") (v :: vs)).toArray[0]? = some (Value.type "tuple") := by simp
      have e1 : ((List.map (fun _ => Value.type "tuple") (v :: vs)).toArray.all fun x => x == Value.type "tuple") = true := by
        rw [List.all_toArray, List.all_map, List.all_eq_true]
        intro _ _
        rfl
      rw [e0]
      simp only [e1, if_true]
      exact wpAny_pure (wpAny_pure q)
end

section
variable {prog : Program} {w : World} {A : Around} {E : Value → Shared → Prop} {s : Shared}
/-- one tuple below another, as sorting asks where not all keys have a first item -/
theorem oneLt_tups {f : Bool} {xs ys : List PyData} {a b : Value} {as bs : List Addr} {Q : Bool → Shared → Prop} (ra : Reads s.heap a (.tuple xs) as) (rb : Reads s.heap b (.tuple ys) bs) (h : alike (.tuple xs) (.tuple ys) = true)
    (hu : A.units + min (PyData.tuple xs).depth (PyData.tuple ys).depth < cLine) (hq : Q (dataLt (.tuple xs) (.tuple ys)) s) : wpAny (model prog w) A (oneLt' f a b) Q E s := by
  cases f with
  | false => exact oneLt_alike (fun z => absurd z (by decide)) ra rb h (by intro z; cases z) hu hq
  | true =>
    have hal : alikeAll xs ys = true := by simpa [alike] using h
    cases ra with
    | @tuple l o vs n _ as₁ h1 h2 h3 h4 =>
      cases rb with
      | @tuple l' o' vs' n' _ bs₁ k1 k2 k3 k4 =>
        have n1 : vs.size = xs.length := by simpa using ReadsAll.length _ _ _ h4
        have n2 : vs'.size = ys.length := by simpa using ReadsAll.length _ _ _ k4
        rw [dataLt_tuple, ← firstLt_toks xs ys hal, ← n1, ← n2] at hq
        rw [oneLt'_eq]
        simp only [if_true]
        obtain ⟨c1, d1, t1, sl1⟩ := o
        obtain ⟨c2, d2, t2, sl2⟩ := o'
        simp only at h2 h3 k2 k3
        subst h2 h3 k2 k3
        refine wpAny_bind (wpAny_cRoomFor (room_here hu) ?_)
        refine wpAny_bind (wpAny_callSpecialIfBound?_slot (T := "tuple") ⟨_, h1, rfl⟩ F.slot_tuple_lt (call_meets F.slot_tuple_lt ⟨_, h1, rfl⟩ F.entry_tuple_lt (F.args_tuple_lt_2 _ _)
          (tuple_ltAt l l' vs vs' n n' d1 d2 sl1 sl2 (pairEq xs ys) (fun j => dataLt (xs.getD j .none) (ys.getD j .none))) ⟨h1, k1, fun j j1 j2 => ?_, fun j j1 j2 hj => ?_, ?_⟩))
        · have z := eqAt_alikeAll xs ys A.in1 s vs.toList vs'.toList _ _ h4 k4 hal (room_in hu) j (by simpa using j1) (by simpa using j2)
          simpa using z
        · have z := rcLt_alikeAll xs ys A.in1 s vs.toList vs'.toList _ _ h4 k4 hal (room_in hu) j (by simpa using j1) (by simpa using j2) hj
          simpa using z
        · exact wpAny_truthy_bool hq
theorem firsts_of : ∀ {h : Heap} {vs : List Value} {ds : List PyData}, EachIs (fun v d => ∃ as, Reads h v d as) vs ds → (∀ d, d ∈ ds → ∃ xs, d = .tuple xs) →
    ∃ fs, Firsts h vs fs ∧ ((∃ d ∈ ds, d = .tuple []) → none ∈ fs)
  | _, _, _, .nil, _ => ⟨[], trivial, fun ⟨_, z, _⟩ => nomatch z⟩
  | h, _, _, .cons (a := v) (b := d) ⟨as, r⟩ t, ht => by
    obtain ⟨fs, h1, h2⟩ := firsts_of t fun d hd => ht d (List.mem_cons_of_mem _ hd)
    obtain ⟨xs, rfl⟩ := ht d (List.mem_cons_self ..)
    cases r with
    | @tuple a o vs n _ _ g1 g2 g3 g4 =>
      refine ⟨vs[0]? :: fs, ⟨⟨a, o, vs, n, rfl, g1, g2, g3, rfl⟩, h1⟩, fun ⟨e, he, z⟩ => ?_⟩
      rcases List.mem_cons.mp he with q | q
      · rw [q] at z
        have z2 : xs = [] := by injection z
        subst z2
        cases g5 : vs.toList with
        | nil =>
          have e2 : vs[0]? = none := by rw [← Array.getElem?_toList, g5]; rfl
          rw [e2]
          exact List.mem_cons_self ..
        | cons _ _ =>
          rw [g5] at g4
          cases g4
      · exact List.mem_cons_of_mem _ (h2 ⟨e, q, z⟩)
/-- values that read as alike tuples can be sorted -/
theorem sortsAt_tups {vs : List Value} {ds : List PyData} (e : EachIs (fun v d => ∃ as, Reads s.heap v d as) vs ds) (hal : AllAlike ds) (ht : ∀ d, d ∈ ds → ∃ xs, d = .tuple xs) (hu : ∀ d, d ∈ ds → A.units + d.depth < cLine) : SortsAt prog w A s (dataKind s.heap ds) vs := by
  by_cases hne : ∃ d ∈ ds, d = .tuple []
  · refine ⟨fun v hv => ?_, ?_⟩
    · obtain ⟨d, hd, as, r⟩ := e.left v hv
      exact ⟨_, dataKind_some hal hd r⟩
    · obtain ⟨fs, h1, h2⟩ := firsts_of e ht
      have lt : ∀ f : Bool, ∀ (E : Value → Shared → Prop) {x y : Value} {a b : List (Int ⊕ List Nat)} {Q : Bool → Shared → Prop}, (dataKind s.heap ds).keyOf x = some a → (dataKind s.heap ds).keyOf y = some b →
          Q ((dataKind s.heap ds).blt a b) s → wpAny (model prog w) A (oneLt' f x y) Q E s := by
        intro f E x y a b Q ha hb hq
        obtain ⟨d, as, hd, ra, rfl⟩ := dataKind_inv ha
        obtain ⟨d', as', hd', rb, rfl⟩ := dataKind_inv hb
        obtain ⟨xs, rfl⟩ := ht d hd
        obtain ⟨ys, rfl⟩ := ht d' hd'
        exact oneLt_tups ra rb (hal _ hd _ hd') (Nat.lt_of_le_of_lt (Nat.add_le_add_left (Nat.min_le_left _ _) _) (hu _ hd)) hq
      refine ⟨if ((fs.toArray[0]?.bind id).isSome) = true then general' else oneType', fun E x y a b Q ha hb hq => ?_, fun _ E Q q => kind_some_empty h1 (h2 hne) q⟩
      by_cases g : ((fs.toArray[0]?.bind id).isSome) = true
      · rw [if_pos g]
        exact lt false E ha hb hq
      · rw [if_neg g]
        exact lt true E ha hb hq
  · refine SortsAt.data e hal (.inl fun d hd => ?_) hu
    obtain ⟨xs, rfl⟩ := ht d hd
    cases xs with
    | nil => exact absurd ⟨_, hd, rfl⟩ hne
    | cons x r => exact ⟨x, r, rfl⟩
end
end RO

namespace RO
open PySem PySem.W PySem.Calls PyProof.Rows PySem.SeqAt
section
variable {prog : Program} {w : World} {A : Around} {E : Value → Shared → Prop} {s : Shared}
/-- what sorted gathers of a tuple -/
theorem gather_tuple {t : Addr} {vs : List Value} {Q : List Value → Shared → Prop} (ht : s.heap.IsTuple t vs.toArray) (hL : vs.length ≤ sizeLine)
    (q : Q vs { s with heap := (s.heap.push (seqObj "list" #[] 0)).update s.heap.objs.size (Obj.mapSeq (· ++ vs.toArray)) }) : wpAny (model prog w) A (collect (.ref t)) Q E s := by
  obtain ⟨o, g1, g2, n, g3⟩ := id ht
  unfold collect
  refine wpAny_bind (wpAny_runValue (codeAny_builtin entry_proto_collect' ?_))
  show wpAny _ _ (do again (.builtin "list.__iadd__" ⟨[← newList [], .ref t], []⟩)) _ _ s
  refine wpAny_bind (wpAny_newList (wpAny_pure ⟨Code.quiet_builtin _ (by decide +kernel), codeAny_builtin entry_list_iadd' ?_⟩))
  show wpAny _ _ (Builtin.List.listExtendWith (.ref s.heap.objs.size) (.ref t) (.ref s.heap.objs.size)) _ _ { s with heap := s.heap.push (seqObj "list" #[] 0) }
  unfold Builtin.List.listExtendWith
  have g4 : (s.heap.push (seqObj "list" #[] 0)).get? t = some o := Heap.get?_push_of_some _ g1
  have g5 : (s.heap.push (seqObj "list" #[] 0)).get? s.heap.objs.size = some (seqObj "list" #[] 0) := Heap.get?_push_size _ rfl
  refine wpAny_bind (wpAny_typeOf (T := "tuple") ⟨o, g4, g2⟩ ?_)
  rw [if_pos (by rw [show (Value.type "tuple" == Value.type "tuple") = true from rfl]; simp)]
  refine wpAny_bind (listItems_at g4 g3 (wpAny_bind (listItems_at (xs := #[]) (n := 0) g5 rfl ?_)))
  rw [if_neg (by simp)]
  refine wpAny_bind (listUpdate_at (xs := #[]) (n := 0) g5 rfl ?_ (Nat.zero_le _) (by show (#[] ++ vs.toArray).size ≤ sizeLine + 1; simp only [Array.size_append, List.size_toArray, List.length_nil]; omega))
  refine wpAny_pure ?_
  show wpAny (model prog w) A (load s.heap.objs.size >>= _) Q E { s with heap := (s.heap.push (seqObj "list" #[] 0)).update s.heap.objs.size (Obj.mapSeq (· ++ vs.toArray)) }
  refine wpAny_bind (wpAny_load (get?_update_seq g5 _) ?_)
  show wpAny _ _ (pure ((#[] : Array Value) ++ vs.toArray).toList) Q E _
  have e : ((#[] : Array Value) ++ vs.toArray).toList = vs := by simp
  rw [e]
  exact wpAny_pure q
/-- sorted of a tuple -/
theorem sorted_tuple {κ : PyProof.Rows.KeyKind} {t : Addr} {vs : List Value} {Q : Value → Shared → Prop} (ht : s.heap.IsTuple t vs.toArray) (S : SortsAt prog w A.in1.in1 { s with heap := sortingHeap (copyHeap s.heap vs) (s.heap.objs.size + 1) vs } κ vs)
    (hL : vs.length ≤ sizeLine) (q : Q (.ref (s.heap.objs.size + 1)) { s with heap := sortedAll s.heap vs (sortVals κ false vs vs).toArray }) : wpAny (model prog w) A (call (.builtin "sorted") [.ref t]) Q E s := by
  refine Calls.call_function_entry kind_sorted plain_sorted entry_sorted (args_sorted1 _) ?_
  unfold Builtin.«sorted»
  refine wpAny_bind (m := checkCount "sorted" 1 1 _) (wpAny_pure (wpAny_bind (gather_tuple ht hL (wpAny_bind (wpAny_newList ?_ hL)))))
  have e : ((s.heap.push (seqObj "list" #[] 0)).update s.heap.objs.size (Obj.mapSeq (· ++ vs.toArray))).objs.size = s.heap.objs.size + 1 := by
    rw [Heap.size_update, size_push']
  show wpAny _ _ _ _ _ { s with heap := copyHeap s.heap vs }
  rw [e]
  refine wpAny_bind (wpAny_holding (wpAny_call_entry slot_list_sort ⟨_, copyHeap_at s.heap vs, rfl⟩ entry_list_sort ?_ (args_list_sort _)))
  exact list_sort_vals (s := { s with heap := copyHeap s.heap vs }) (copyHeap_at s.heap vs) S hL ⟨_, rfl, wpAny_pure ⟨_, rfl, q⟩⟩
end
end RO

namespace L2
open PySem PySem.Spec PyProof.Rows
section
variable {X : Cx}
/-- sorted(xs): xs a list or a tuple of alike tuples -/
def rSortD (K : PySem.W.Frag) : List V → Hp → VK → Prop := fun vs H Q => ∃ (a : Addr) (bs : List (V × PyData)), vs = [.ref a] ∧ (SqL K H a (bs.map (·.1)) ∨ SqT K H a (bs.map (·.1))) ∧
  (∀ b ∈ bs, Dp K H b.1 b.2 ∧ (∃ xs, b.2 = .tuple xs) ∧ b.2.depth ≤ 100) ∧ (∀ b ∈ bs, ∀ c ∈ bs, PySem.W.alike b.2 c.2 = true) ∧
  ∀ p, H p = none → Q (.ref p) (upd H p (.lst ((bs.mergeSort (PySem.W.dataLe false (·.2))).map (·.1))))
theorem each_reads {pins : List (Addr × Obj)} {σ : St} {H : Hp} {s : Shared} (I : Inv X pins σ H s) : ∀ {bs : List (V × PyData)} {us : List Value}, Vals (bs.map (·.1)) us → (∀ b ∈ bs, Dp X.K H b.1 b.2) →
    PySem.W.EachIs (fun u b => RelV b.1 u) us bs ∧ PySem.W.EachIs (fun u b => ∃ as, Reads s.heap u b.2 as) us bs
  | [], _, r, _ => by
    have r' : Vals [] _ := r
    cases r'
    exact ⟨.nil, .nil⟩
  | b :: bs, _, r, h => by
    have r' : Vals (b.1 :: bs.map (·.1)) _ := r
    cases r' with
    | cons r1 r2 =>
      obtain ⟨q1, q2⟩ := each_reads I r2 fun c hc => h c (List.mem_cons_of_mem _ hc)
      exact ⟨.cons r1 q1, .cons (Dp.reads I _ _ _ (h b (List.mem_cons_self ..)) r1) q2⟩
theorem vals_each : ∀ {cs : List (V × PyData)} {us : List Value}, PySem.W.EachIs (fun u b => RelV b.1 u) us cs → Vals (cs.map (·.1)) us
  | _, _, .nil => .nil
  | _, _, .cons h t => .cons h (vals_each t)
theorem cr_sortedD {k : Nat} (hr : Room k X.A) : CallR X (.builtin "sorted") (rSortD X.K) := by
  intro pins s σ H xs us Q I r h
  obtain ⟨a, bs, rfl, hq, h1, h2, q⟩ := h
  obtain ⟨u, rfl, rx⟩ := vals1 r
  cases rx
  have hal : PySem.W.AllAlike (bs.map (·.2)) := by
    intro d hd d' hd'
    obtain ⟨b, hb, rfl⟩ := List.mem_map.mp hd
    obtain ⟨c, hc, rfl⟩ := List.mem_map.mp hd'
    exact h2 b hb c hc
  have htp : ∀ d, d ∈ bs.map (·.2) → ∃ xs, d = .tuple xs := by
    intro d hd
    obtain ⟨b, hb, rfl⟩ := List.mem_map.mp hd
    exact (h1 b hb).2.1
  have hun := hr.units
  have hrm := hr.un
  have hdp : ∀ d, d ∈ bs.map (·.2) → X.A.in1.in1.units + d.depth < cLine := by
    intro d hd
    obtain ⟨b, hb, rfl⟩ := List.mem_map.mp hd
    have := (h1 b hb).2.2
    show X.A.units + 1 + 1 + _ < _
    omega
  have fin : ∀ (its : List Value), Vals (bs.map (·.1)) its → its.length ≤ sizeLine → PySem.W.SortsAt X.prog X.w X.A.in1.in1 { s with heap := PySem.W.sortingHeap (PySem.W.copyHeap s.heap its) (s.heap.objs.size + 1) its } (PySem.W.dataKind (PySem.W.sortingHeap (PySem.W.copyHeap s.heap its) (s.heap.objs.size + 1) its) (bs.map (·.2))) its ∧
      EP X pins σ Q (.ref (s.heap.objs.size + 1)) { s with heap := PyProof.Rows.sortedAll s.heap its (PySem.W.sortVals (PySem.W.dataKind (PySem.W.sortingHeap (PySem.W.copyHeap s.heap its) (s.heap.objs.size + 1) its) (bs.map (·.2))) false its its).toArray } := by
    intro its rv hz
    obtain ⟨e1, e2⟩ := each_reads I rv fun b hb => (h1 b hb).1
    have e3 : PySem.W.EachIs (fun u b => ∃ as, Reads (PySem.W.sortingHeap (PySem.W.copyHeap s.heap its) (s.heap.objs.size + 1) its) u b.2 as) its bs := e2.mono fun _ _ ⟨as, r⟩ => ⟨as, PyProof.Rows.Reads.keeps (fun _ _ => PySem.W.sorting_copy_old) r⟩
    have e4 := PySem.W.sortVals_data (R := fun (u : Value) (b : V × PyData) => RelV b.1 u) (enc := fun b : V × PyData => b.2) false e1 e3 hal
    refine ⟨RO.sortsAt_tups (s := { s with heap := PySem.W.sortingHeap (PySem.W.copyHeap s.heap its) (s.heap.objs.size + 1) its }) (PySem.W.each_map (R := fun v d => ∃ as, Reads _ v d as) (fun b : V × PyData => b.2) e3) hal htp hdp, ?_⟩
    have rel := vals_each e4
    obtain ⟨c, hc⟩ := PyProof.Rows.sortedAll_at s.heap its (PySem.W.sortVals (PySem.W.dataKind (PySem.W.sortingHeap (PySem.W.copyHeap s.heap its) (s.heap.objs.size + 1) its) (bs.map (·.2))) false its its).toArray
    have hlen : ((bs.mergeSort (PySem.W.dataLe false (·.2))).map (·.1)).length ≤ sizeLine := by
      rw [List.length_map, List.length_mergeSort]
      have := rv.length
      rw [List.length_map] at this
      omega
    refine ⟨.ref (s.heap.objs.size + 1), upd H (s.heap.objs.size + 1) (.lst ((bs.mergeSort (PySem.W.dataLe false (·.2))).map (·.1))), ?_, rfl, q _ (I.hok.fresh (Nat.le_succ _))⟩
    exact I.laid (t' := s.toks) (fun b o e => PyProof.Rows.sortedAll_old e) (Nat.le_succ _) ⟨hlen, _, c, rel, hc⟩
  rcases hq with hq | hq
  · obtain ⟨its, rv, pl, hz⟩ := I.list hq
    have hz' : its.length ≤ sizeLine := by rw [← rv.length]; exact hz
    obtain ⟨z1, z2⟩ := fin its rv hz'
    exact PySem.W.sorted_vals pl.isList z1 hz' z2
  · obtain ⟨its, rv, pl, hz⟩ := I.tuple hq
    have hz' : its.length ≤ sizeLine := by rw [← rv.length]; exact hz
    obtain ⟨z1, z2⟩ := fin its rv hz'
    exact RO.sorted_tuple pl z1 hz' z2
end
end L2

/-! text G2 -/
set_option Elab.async false
set_option linter.all false
set_option maxRecDepth 100000
set_option maxHeartbeats 1000000
/-! Further rules over the layer: == with a shallow side, in over lists and tuples of data, tuple(list) told exactly, dict of such a tuple, len(set(..)), great powers. -/
namespace L2
open PySem PySem.Spec PyProof.Rows
section
variable {X : Cx}
/-! ### == and != where one side is shallow -/
def rEqM (K : PySem.W.Frag) (neg : Bool) : R2 := fun x y H Q => ∃ d e, Dp K H x d ∧ Dp K H y e ∧ PyData.canLay0 d = true ∧ PyData.canLay0 e = true ∧ min d.depth e.depth ≤ 64 ∧ Q (.bl (if neg then !PyData.eqv d e else PyData.eqv d e)) H
theorem op_eqM {k : Nat} (hr : Room k X.A) : OpR X (compareOp .Eq) (rEqM X.K false) := by
  intro pins s σ H x y v u Q I rx ry h
  obtain ⟨d, e, hd, he, c1, c2, hm, q⟩ := h
  obtain ⟨as, r1⟩ := Dp.reads I d x v hd rx
  obtain ⟨bs, r2⟩ := Dp.reads I e y u he ry
  exact SeqAt.compareEq_reads r1 r2 c1 c2 (by have := hr.units; omega) ⟨.bl _, H, I, rfl, q⟩
theorem op_neM {k : Nat} (hr : Room k X.A) : OpR X (compareOp .NotEq) (rEqM X.K true) := by
  intro pins s σ H x y v u Q I rx ry h
  obtain ⟨d, e, hd, he, c1, c2, hm, q⟩ := h
  obtain ⟨as, r1⟩ := Dp.reads I d x v hd rx
  obtain ⟨bs, r2⟩ := Dp.reads I e y u he ry
  exact SeqAt.compareNe_reads r1 r2 c1 c2 (by have := hr.units; omega) ⟨.bl _, H, I, rfl, q⟩
/-! ### in, not in -/
def rInS (K : PySem.W.Frag) (neg : Bool) : R2 := fun x y H Q => ∃ d ds, Dp K H x d ∧ (Dp K H y (.list ds) ∨ Dp K H y (.tuple ds)) ∧ PyData.canLay0 d = true ∧ PyData.canLayAll0 ds = true ∧ d.depth ≤ 64 ∧
  Q (.bl (if neg then !ds.any (fun z => PyData.eqv z d) else ds.any fun z => PyData.eqv z d)) H
theorem op_inS {k : Nat} (hr : Room k X.A) : OpR X (compareOp .In) (rInS X.K false) := by
  intro pins s σ H x y v u Q I rx ry h
  obtain ⟨d, ds, hd, he, c1, c2, hm, q⟩ := h
  obtain ⟨as, r1⟩ := Dp.reads I d x v hd rx
  have hu : X.A.units + 1 + min (PyData.depthAll ds) d.depth < cLine := by have := hr.un; omega
  rcases he with he | he
  · obtain ⟨bs, r2⟩ := Dp.reads I _ y u he ry
    exact SeqAt.in_list_reads r2 r1 c2 c1 hu ⟨.bl _, H, I, rfl, q⟩
  · obtain ⟨bs, r2⟩ := Dp.reads I _ y u he ry
    exact SeqAt.in_tuple_reads r2 r1 c2 c1 hu ⟨.bl _, H, I, rfl, q⟩
theorem op_notInS {k : Nat} (hr : Room k X.A) : OpR X (compareOp .NotIn) (rInS X.K true) := by
  intro pins s σ H x y v u Q I rx ry h
  obtain ⟨d, ds, hd, he, c1, c2, hm, q⟩ := h
  obtain ⟨as, r1⟩ := Dp.reads I d x v hd rx
  have hu : X.A.units + 1 + min (PyData.depthAll ds) d.depth < cLine := by have := hr.un; omega
  rcases he with he | he
  · obtain ⟨bs, r2⟩ := Dp.reads I _ y u he ry
    exact SeqAt.notIn_list_reads r2 r1 c2 c1 hu ⟨.bl _, H, I, rfl, q⟩
  · obtain ⟨bs, r2⟩ := Dp.reads I _ y u he ry
    exact SeqAt.notIn_tuple_reads r2 r1 c2 c1 hu ⟨.bl _, H, I, rfl, q⟩
/-! ### tuple(list), the object told -/
def rTupF (K : PySem.W.Frag) : List V → Hp → VK → Prop := fun xs H Q => ∃ p ys, xs = [.ref p] ∧ SqL K H p ys ∧ ∀ l, H l = none → ∀ o : Obj, o.dict = none → Q (.ref l) (upd H l (.frz o (.tup ys)))
theorem call_tupF : CallR X (.type "tuple") (rTupF X.K) := by
  intro pins s σ H xs us Q I r h
  obtain ⟨p, ys, rfl, hq, q⟩ := h
  obtain ⟨u, rfl, rx⟩ := vals1 r
  cases rx
  obtain ⟨its, r', pl, hz⟩ := I.list hq
  have hlen := r'.length
  refine call_tuple_list pl.isList (fun h' kp => ?_) (by simp only [List.size_toArray]; omega)
  have J : Inv X pins σ H { s with heap := h' } := I.kept (t' := s.toks) kp
  refine ⟨.ref h'.objs.size, upd H h'.objs.size (.frz { cls := .type "tuple", data := .seq its.toArray } (.tup ys)), ?_, rfl, q _ (J.hok.fresh (Nat.le_refl _)) _ rfl⟩
  exact J.laid (t' := s.toks) (fun b o e => Heap.get?_push_of_some _ e) (Nat.le_refl _) ⟨Heap.get?_push_size _ rfl, hz, its, r', IsTup.new _ _⟩
/-! ### dict(t) of such a tuple of pairs -/
def rDictT (K : PySem.W.Frag) : List V → Hp → VK → Prop := fun xs H Q => ∃ (a : Addr) (o : Obj) (ps : List Addr) (kvs : List (Key × V)), xs = [.ref a] ∧ o.dict = none ∧ H a = some (.frz o (.tup (ps.map V.ref))) ∧
  Paired (fun p kv => SqT K H p [kV kv.1, kv.2]) ps kvs ∧ ∀ p, H p = none → Q (.ref p) (upd H p (.dK (mergeK [] kvs)))
theorem call_dictT (hcalm : X.calm = true) : CallR X (.type "dict") (rDictT X.K) := by
  intro pins s σ H xs us Q I r q
  obtain ⟨a, o, ps, kvs, ex, hod, hq, hp, q⟩ := q
  subst ex
  obtain ⟨u, eu, rx⟩ := vals1 r
  subst eu
  cases rx
  obtain ⟨go, hz, its, rv, o2, go2, hc, n, hdat⟩ := (show ObjOk X.prog X.w H s.heap a (.frz o (.tup (ps.map V.ref))) from I.hok a _ hq)
  rw [go] at go2
  cases go2
  have ei := refs_at rv
  subst ei
  rw [List.length_map] at hz
  obtain ⟨prs, rel, hl, hpr⟩ := pairs_of I hp
  have some_ : ∀ j : Nat, ∃ k : Value, ∀ q' : Key × Value, prs[j]? = some q' → ∃ b : Addr, ps[j]? = some b ∧ IsTup s.heap b #[k, q'.2] ∧ keyIs q'.1 k = true := by
    intro j
    cases e : prs[j]? with
    | none => exact ⟨.none, fun q' z => by cases z⟩
    | some q0 =>
      obtain ⟨b, u, h1, h2, h3⟩ := hpr j q0 e
      exact ⟨u, fun q' z => by cases z; exact ⟨b, h1, h2, h3⟩⟩
  obtain ⟨ks, hks⟩ := Classical.axiomOfChoice some_
  let ws : List (Value × Value) := prs.mapIdx fun j q' => (ks j, q'.2)
  have wl : ws.length = prs.length := by simp [ws]
  have wat : ∀ j k v, ws[j]? = some (k, v) → ∃ q', prs[j]? = some q' ∧ k = ks j ∧ v = q'.2 := by
    intro j k v e
    simp only [ws, List.getElem?_mapIdx, Option.map_eq_some_iff] at e
    obtain ⟨q', e1, e2⟩ := e
    cases e2
    exact ⟨q', e1, rfl, rfl⟩
  have hsz : (ps.map Value.ref).toArray.size = ws.length := by rw [wl, hl]; simp
  refine PySem.call_dict_pairs (knd := mixKind X.prog X.w) (kvs := prs) (PairArg.tuple (prog := X.prog) (w := X.w) a (ps.map Value.ref).toArray (fun j => ps.getD j 0) ws) (I.ok.hd hcalm) ⟨⟨o, n, go, hc, hod, hdat⟩, hsz, fun j k v e => ?_⟩ ⟨wl.symm, fun i k v e => ?_⟩ (by rw [wl, hl]; exact hz) fun h' tk hd' kp => ?_
  · obtain ⟨q', e1, rfl, rfl⟩ := wat j k v e
    obtain ⟨b, h1, h2, _⟩ := hks j q' e1
    have eb : ps.getD j 0 = b := by rw [List.getD_eq_getElem?_getD, h1]; rfl
    refine ⟨?_, ?_⟩
    · show (List.map Value.ref ps).toArray[j]? = some (Value.ref (ps.getD j 0))
      rw [eb]
      simp [h1]
    · show PairAt s.heap (ps.getD j 0) (ks j) q'.2
      rw [eb]
      exact .inl h2
  · obtain ⟨q', e1, rfl, rfl⟩ := wat i k v e
    obtain ⟨b, h1, _, h3⟩ := hks i q' e1
    exact ⟨q'.1, by rw [e1], h3⟩
  · have hm : (s.heap.objs.size == sysModules) = false := beq_eq_false_iff_ne.mpr (Nat.ne_of_gt I.big)
    have hlen : (mergeK [] kvs).length ≤ sizeLine := by
      refine Nat.le_trans (length_mergeK kvs []) ?_
      rw [List.length_nil, Nat.zero_add, rel.length, hl]
      exact hz
    exact ⟨.ref s.heap.objs.size, upd H s.heap.objs.size (.dK (mergeK [] kvs)), I.laid (t' := tk) (fun b ob e => kp b ob (by simp) e) (Nat.le_refl _) (show ObjOk X.prog X.w _ _ _ (.dK (mergeK [] kvs)) from ⟨hlen, hm, merged [] prs, KV.merge rel .nil, hd'⟩), rfl, q _ (I.hok.fresh (Nat.le_refl _))⟩
/-! ### len(set(xs)) of whole numbers -/
/-- how many there are without repetitions -/
def ddN (ns : List Int) : List Int := PyProof.Rows.firstMet (fun i => ns.getD i 0) ns.length
def tLenSetJ (K : PySem.W.Frag) (ta : TE) : TE := fun σ H Q => ta σ H fun x H1 => ∃ (l : Addr) (ns : List Int), x = .ref l ∧ SqL K H1 l (ns.map V.int) ∧ ns.length ≤ 4000 ∧ Q (.int ((ddN ns).length : Nat)) H1
theorem pe_lenSetJ {a : Expr} {ta : TE} {p p2 q pos : Pos} (hg : Gl X "len") (hm : X.mg "len" = none) (hg2 : Gl X "set") (hm2 : X.mg "set" = none) (ha : PE X a ta) (hc : X.calm = true := by rfl)
    (na : starEach [a] X.env = (false, eval a X.env) :: starEach [] X.env := by rfl) : PE X (.Call (.Name "len" p) [.Call (.Name "set" p2) [a] [] q] [] pos) (tLenSetJ X.K ta) := by
  refine ⟨fun pins s σ H Q I h => Call_ (ld_blt I hg hm boot_len (PyProof.Rows.callWith_builtin1 (PyProof.Rows.args_cons ?_ rfl) rfl rfl))⟩
  refine Call_ (ld_blt I hg2 hm2 boot_set (PyProof.Rows.callWith_type1 (PyProof.Rows.args_cons (thn (ha.run pins s σ H _ I h) fun v s1 ⟨x, H1, I1, r1, q1⟩ => PyProof.Rows.args_nil ?_) na) na rfl))
  obtain ⟨l, ns, rfl, hq, hl, q1⟩ := q1
  cases r1
  obtain ⟨its, r, pl, hz⟩ := I1.list hq
  have el : its.toArray.size = ns.length := by rw [List.size_toArray, ← r.length, List.length_map]
  have hle : (PyProof.Rows.firstMet (fun i => ns.getD i 0) ns.length).length ≤ ns.length := PyProof.Rows.firstMet_length_le _ _
  refine call_set_list (I1.ok.hd hc) pl.isList (by simpa using RZ.intsAre_vals r) (by rw [el]; unfold scanBound; omega) fun h' tk hS hk => PyProof.Rows.args_nil ?_
  rw [el] at hS
  obtain ⟨o, es, ep, t, ho, hex, hd, _, _, _, hf, hn⟩ := hS
  have I2 : Inv X pins σ H1 { s1 with heap := h', toks := tk } := I1.kept fun b o e => hk b o (Heap.lt_size e) e
  exact call_len_set ho hex hd hf (by rw [hn]; omega) ⟨.int ((ddN ns).length : Nat), H1, I2.tok _, ⟨_, by rw [hn]; rfl⟩, q1⟩
/-! ### powers -/
theorem op_powW : OpR X (binaryOp .Pow) (rI (fun i j => 0 ≤ j ∧ (Builtin.Int.intBits i : Int) * j ≤ 2 ^ 27) fun i j => .int (i ^ j.toNat)) := opI fun _ _ _ _ _ _ _ hc q => PyProof.Rows.pow_int hc.1 hc.2 q
end
end L2

/-! text G3 -/
set_option Elab.async false
set_option linter.all false
set_option maxRecDepth 100000
set_option maxHeartbeats 2000000
/-! B.__init__(self, ..) of an own exception class B that has none of its own; len(x) of an own class with __len__; a try whose first clause has a name and takes all that is raised. -/
namespace L2
open PySem PySem.Spec PyProof.Rows
section
variable {X : Cx} {e : Expr} {es : List Expr} {ta : TA} {p1 p2 pos : Pos} {R : Addr} {nm : Str} {mc : Value}
/-- what is asked of the class at R, read for its __init__ -/
structure BaseC (K : PySem.W.Frag) (R : Addr) (mc : Value) : Prop where
  tg : PySem.W.specialIn K (.ref R) "__getattribute__" = some (some (.builtin "type.__getattribute__"))
  rd : PySem.W.readsIn K R mc = true
  fc : PySem.W.findCls K (.ref R) mc "__init__" = some (.val (.builtin "ValueError.__init__"))
theorem pe_baseinit {pl : Sem Bool} (hg : Gl X nm) (hm : X.mg nm = some (.ref R)) (B : BaseC X.K R mc) (ha : PA X (e :: es) ta)
    (hc : eval (.Call (.Attribute (.Name nm p1) "__init__" p2) (e :: es) [] pos) X.env = (do
      let ov ← eval (.Name nm p1) X.env
      standAt p2.atName
      let (f, first) ← holding [ov] (getMethod ov "__init__" pl)
      callWith pos f first (backTo pos (starEach (e :: es) X.env)) (backToKw pos (keywordEach [] X.env))) := by rfl)
    (hdb : (nm == ("__debug__" : Str)) = false := by decide)
    (he : starEach (e :: es) X.env = (false, eval e X.env) :: starEach es X.env := by rfl) (hpl : (backTo pos (starEach es X.env)).any (·.1) = false := by rfl) :
    PE X (.Call (.Attribute (.Name nm p1) "__init__" p2) (e :: es) [] pos) (tVeI X.K ta) := by
  refine ⟨fun pins s σ H Q I h => PySem.W.methodCall_KW (ld_glob I hg hm ?_ hdb) hc⟩
  refine PySem.W.method_cls I.kIn B.tg (PySem.W.cls_value I.kIn B.rd B.fc (by decide +kernel) ?_)
  refine PyProof.Rows.callWith_method1 (thn (ha.run pos pins _ σ H _ (I.tok _) h) fun us s1 ⟨vs, H1, I1, r1, a, C, ws, ev, hl, T, ea, q⟩ => ?_) he hpl
  subst ev
  cases r1 with
  | @cons _ u0 _ ur ra rw' =>
    obtain rfl : u0 = Value.ref a := ra
    have z : ur.length ≤ sizeLine := by
      rw [← Paired.length rw', sizeLine_eq]
      omega
    exact oinit_ok T I1 ea z fun s' J => ⟨.non, H1, J, rfl, q⟩
end

/-! ### len of an instance whose class has a __len__ that gives a whole number -/
section
variable {prog : Program} {w : World} {A : Around} {E : Value → Shared → Prop} {s : Shared} {K : PySem.W.Frag} {y C f : Addr} {ox : Obj} {od : Option Obj}
theorem len_own_run {Q : Value → Shared → Prop} (Y : K.In s.heap) (J : PySem.W.InstAt s.heap y ox C od) (hs : PySem.W.findIn K (.ref C) "__len__" = some (some (.ref f))) (hf : PySem.W.typeIn K (.ref f) = some (.type "function"))
    (h : wpAny (model prog w) A.in1 (call (.ref f) [.ref y]) (fun r s₁ => ∃ (n : Nat) (u : Tok), r = Value.int (n : Int) u ∧ n < 2 ^ 60 ∧ ∀ t, Q (.int (n : Int) t) { s₁ with toks := t + 1 }) E s) :
    wpAny (model prog w) A (call (.builtin "len") [.ref y]) Q E s := by
  refine Calls.call_function_entry kind_len plain_len entry_len (args_len1 _) ?_
  unfold Builtin.«len»
  refine wpAny_bind (m := oneArg "len" _) (wpAny_pure ?_)
  refine wpAny_bind (m := callSpecial? (.ref y) (PySem.Str.ofString "__len__")) (PySem.W.special_fn Y J hs hf (wpAny_mono h (fun r s₁ hr => ?_) fun _ _ z => z))
  obtain ⟨n, u, rfl, hn, q⟩ := hr
  refine wpAny_bind (wpAny_holding (wpAny_pure (wpAny_bind (wpAny_letGo ?_))))
  show wpAny _ _ (if ((n : Nat) : Int) < 0 then _ else _) _ _ _
  rw [if_neg (by omega)]
  show wpAny _ _ (if ((n : Nat) : Int) ≥ 2 ^ 63 then _ else _) _ _ _
  rw [if_neg (by omega)]
  exact wpAny_bind (wpAny_mkInt (wpAny_pure ⟨_, rfl, q s₁.toks⟩))
end
section
variable {X : Cx} {CX : CXT} {n : Nat} {C g : Addr} {sp : Sp} {E : XK}
def rLenO (C : Addr) (sp : Sp) (E : XK) : List V → Hp → VK → Prop := fun xs H Q => ∃ a dx fs, xs = [V.ref a] ∧ H a = some (.ins C dx fs) ∧ sp [.ref a] H (fun z H' => ∃ m : Nat, z = .int (m : Int) ∧ m < 2 ^ 60 ∧ Q (.int (m : Int)) H') E
theorem call_lenO (hs : PySem.W.findIn X.K (.ref C) "__len__" = some (some (.ref g))) (hf : PySem.W.typeIn X.K (.ref g) = some (.type "function")) (F : FnR X.prog X.w X.K X.mg X.base CX n g sp) (hr : Room (n + 1) X.A) (hx : Passes CX X E) :
    CallR X (.builtin "len") (rLenO C sp E) := by
  intro pins s σ H xs us Q I r h
  obtain ⟨a, dx, fs, rfl, ha, q⟩ := h
  obtain ⟨u, rfl, ru⟩ := vals1 r
  cases (show u = Value.ref a from ru)
  obtain ⟨mA, O, _⟩ := ins_get I.hok ha
  obtain ⟨od, J, _⟩ := O.look
  refine len_own_run I.kIn J hs hf (wpAny_call (codeAny_mono (F X.A.in1 X.stack s H [.ref a] [.ref a] _ E hr.in1 I.env0.in1 (.cons rfl .nil) q) fun r s' hq => ?_))
  cases r with
  | error e => exact hx pins σ H s e s' I hq
  | ok fl =>
    cases fl with
    | ret u =>
      obtain ⟨v, H', I', rv, m, ev, hm, q3⟩ := I.after hq
      subst ev
      obtain ⟨t0, rfl⟩ := rv
      exact ⟨m, t0, rfl, hm, fun t => ⟨.int (m : Int), H', I'.tok _, ⟨t, rfl⟩, q3⟩⟩
    | next => exact False.elim hq
    | brk => exact False.elim hq
    | cont => exact False.elim hq
end
end L2

namespace L2
open PySem PySem.Spec PyProof.Rows
/-- the wish of a first clause 'except x as n' that takes whatever the body raises; what other clauses stand behind is all the same -/
def wFirst (K : PySem.W.Frag) (c : Value) (i : Nat) (ts : Addr → Value → Option Addr → TS) (D : Ends) : WX := fun cls d σ H =>
  PySem.W.exmOne K cls c = some true ∧ ∀ a, H a = none → ts a cls d { nx := fun σ' H' => D.nx (σ'.set i none) H', rt := D.rt, bk := fun σ' H' => D.bk (σ'.set i none) H', ct := fun σ' H' => D.ct (σ'.set i none) H' } (σ.set i (some (.ref a))) H
section
variable {X : Cx} {x n : Str} {c : Value} {i : Nat} {body suite : List Stmt} {b₀ : Stmt} {np pos pos' : Pos} {more : List ExceptHandler} {tb : WX → TS} {ts : Addr → Value → Option Addr → TS}
/-- what is wanted once the clause has caught it: over every state that stands on the ground -/
theorem first_clause {pins : List (Addr × Obj)} {D : Ends} (hs : X.stack = X.env :: X.outer) (hf : X.env.frame = some X.env.locals) (hN : X.N.Nodup) (hi : X.N[i]? = some n) (hln : X.env.kindOf n = some .local) (hc : Names X x c)
    (hsu : ∀ (a : Addr) (oe : Obj) (cls : Value) (d : Option Addr) (pn : List (Addr × Obj)), Zc cls d oe → (∃ vs, oe.data = .fields vs) → PSs (X.suite a ((a, oe) :: pn)) (b₀ :: suite) (ts a cls d))
    (ok : X.Ok) {u : Value} {s' : Shared} {xe : Value → Shared → Prop} (xx : XE (X.tr (X.pn ++ pins) xe) (wFirst X.K c i ts D) u s') :
    wpAny (model X.prog X.w) X.A (noteFrame u X.env) (fun _ s₂ => wpAny (model X.prog X.w) X.A (setFlight u none) (fun _ s₃ =>
      wpAny (model X.prog X.w) X.A (handleBy u X.env (.ExceptHandler (some (.Name x np)) (some n) (b₀ :: suite) pos' :: more)) (SP X pins D) X.xe s₃) X.xe s₂) X.xe s' := by
  obtain ⟨a, B, sI, pins', σ', H', cls, d, rfl, J', nb, up, sky, na, os, ag, em, go⟩ := xx
  have J : Inv X pins σ' H' sI := J'.ofTry ok
  have fr : X.A.frames = some (X.env :: X.outer) := by rw [ok.frames, hs]
  have sky2 : Sky B (X.env :: X.outer) a (Zc cls d) X.env.locals s'.heap := by rw [← hs]; exact sky
  refine Sky.land Zc.steady fr hf sky2 fun h1 f1 up1 => ?_
  have apart : ∀ {h : Heap}, HandSPX.FlyingZ B (X.env :: X.outer) a (Zc cls d) h → Inv X pins σ' H' { s' with heap := h } →
      ∃ oe, Zc cls d oe ∧ (∃ vs, oe.data = .fields vs) ∧ h.get? a = some oe ∧ Inv (X.suite a ((a, oe) :: (X.pn ++ pins))) [] σ' H' { s' with heap := h } := by
    intro h fl K1
    obtain ⟨oe, vs, g1, g2, g3⟩ := fl.there
    have away : a ∉ frs (X.env :: X.outer) := fun hm => by
      obtain ⟨_, o', e', nf⟩ := fl.2.2.1.mem hm
      rw [g1] at e'
      cases e'
      exact nf _ g3
    refine ⟨oe, g2, ⟨_, g3⟩, g1, K1.suite g1 g3 na (fun z => ?_) fun hm => ?_⟩
    · exact away (List.mem_filterMap.mpr ⟨X.env, List.mem_cons_self, by rw [hf, z]⟩)
    · obtain ⟨e, he, q⟩ := List.mem_filterMap.mp hm
      exact away (List.mem_filterMap.mpr ⟨e, List.mem_cons_of_mem _ he, q⟩)
  obtain ⟨o1, z1, _, g1, S1⟩ := apart f1 (J.landed nb f1.1 (up.trans up1) os ag)
  have ty : PySem.W.Looks (model X.prog X.w) h1 (typeOf (.ref a)) cls := fun A Q E s k q => wpAny_typeOf_ref (k _ _ g1) (by rw [z1.1]; exact q)
  have named : ∀ {Q : Value → Shared → Prop} {E : Value → Shared → Prop}, Q c { s' with heap := h1 } → wpAny (model X.prog X.w) (X.A.mark (some (.ref a))) (eval (.Name x np) X.env) Q E { s' with heap := h1 } := by
    intro Q E q
    obtain ⟨k1, k2, k3⟩ := hc
    rcases k3 with k3 | ⟨k3, k4, k5⟩
    · exact ld_glob S1 k1 k3 q k2
    · exact ld_blt S1 k1 k3 k4 q k5 k2
  refine wpAny_handleBy_cons (codeAny_handlers_test (named ((PySem.W.exm_one (S1.kIn) ty em).here ?_))) (by intro q; cases q)
  refine codeAny_handlers_suite_as (HandSPX.lands_againZ f1 fun h2 f2 up2 => ?_)
  obtain ⟨o2, z2, d2, g2, S2⟩ := apart f2 (J.landed nb f2.1 ((up.trans up1).trans up2) os ag)
  refine store_ok (X := X.suite a ((a, o2) :: (X.pn ++ pins))) (v := .ref a) S2 hN hi (.inl hln) rfl (fun s5 S5 => ?_) (.inr hln)
  refine wpAny_mono ((hsu a o2 cls d (X.pn ++ pins) z2 d2).run [] s5 _ H' _ S5 (go a na)) (fun f s6 hsp => ?_) (fun _ _ z => False.elim z)
  have last : ∀ {σ6 : St} {H6 : Hp} {Q : Shared → Prop}, Inv (X.suite a ((a, o2) :: (X.pn ++ pins))) [] σ6 H6 s6 → (∀ s7, Inv X pins (σ6.set i none) H6 s7 → Q s7) →
      wpAny (model X.prog X.w) X.A (do bindName X.env n .none; unbindBehindTheSuite X.env n pos') (fun _ s7 => Q s7) X.xe s6 := fun S6 q => gone_ok (S6.unsuite ok) hN hi hln q
  cases f with
  | ret u =>
    obtain ⟨v6, σ6, H6, S6, r6, q6⟩ := hsp
    exact last S6 fun s7 J7 => ⟨_, _, _, J7, r6, q6⟩
  | next =>
    obtain ⟨σ6, H6, S6, q6⟩ := hsp
    exact last S6 fun s7 J7 => ⟨_, _, J7, q6⟩
  | brk =>
    obtain ⟨σ6, H6, S6, q6⟩ := hsp
    exact last S6 fun s7 J7 => ⟨_, _, J7, q6⟩
  | cont =>
    obtain ⟨σ6, H6, S6, q6⟩ := hsp
    exact last S6 fun s7 J7 => ⟨_, _, J7, q6⟩
theorem ps_try_first (hs : X.stack = X.env :: X.outer) (hf : X.env.frame = some X.env.locals) (hN : X.N.Nodup) (hi : X.N[i]? = some n) (hln : X.env.kindOf n = some .local) (hc : Names X x c)
    (hb : ∀ (W : WX) (pn : List (Addr × Obj)) (xe : Value → Shared → Prop), Takes (X.tr pn xe) W → PassesOwn (model X.prog X.w) X.A X.env xe → PSs (X.tr pn xe) body (tb W))
    (hsu : ∀ (a : Addr) (oe : Obj) (cls : Value) (d : Option Addr) (pn : List (Addr × Obj)), Zc cls d oe → (∃ vs, oe.data = .fields vs) → PSs (X.suite a ((a, oe) :: pn)) (b₀ :: suite) (ts a cls d)) :
    PS X (.Try body (.ExceptHandler (some (.Name x np)) (some n) (b₀ :: suite) pos' :: more) [] [] pos) (fun D σ H => tb (wFirst X.K c i ts D) D σ H) := by
  refine ⟨fun pins s σ H D I h => wpAny_Try_except ?_⟩
  refine wpAny_mono ((hb (wFirst X.K c i ts D) (X.pn ++ pins) _ (fun u s' xx => first_clause hs hf hN hi hln hc hsu I.ok xx) PassesOwn.looking).run [] s σ H D (I.toTry _) h) (fun f s1 hsp => ?_) (fun e s1 he => he)
  cases f with
  | next =>
    obtain ⟨σ', H', J', q⟩ := hsp
    exact wpAny_execs_nil ⟨σ', H', J'.ofTry I.ok, q⟩
  | brk =>
    obtain ⟨σ', H', J', q⟩ := hsp
    exact ⟨σ', H', J'.ofTry I.ok, q⟩
  | cont =>
    obtain ⟨σ', H', J', q⟩ := hsp
    exact ⟨σ', H', J'.ofTry I.ok, q⟩
  | ret u =>
    obtain ⟨v, σ', H', J', r, q⟩ := hsp
    exact ⟨v, σ', H', J'.ofTry I.ok, r, q⟩
end
end L2

/-! text P0 -/
set_option Elab.async false
set_option linter.all false
set_option maxRecDepth 100000
set_option maxHeartbeats 1000000
/-! The text by places, what the top leaves (Tx), heaps that keep what they held. -/
namespace RO
open PySem PySem.Spec PyProof.Rows L2
def top (i : Nat) : Stmt := PySem.Challenge.pw_readorder_k89_whole_any_order_of_adding.main.body.getD i (.Pass ⟨0, 0, 0, 0⟩)

abbrev sIsCell : Stmt := top 16
abbrev sIsValue : Stmt := top 17
abbrev sIsPair : Stmt := top 18
abbrev sHasLogForm : Stmt := top 19
abbrev sIsLog : Stmt := top 20
abbrev sHaveLogsForm : Stmt := top 21
abbrev sIsLogs : Stmt := top 22
abbrev sSharedCells : Stmt := top 23
abbrev sPartsBy : Stmt := top 26
abbrev sSplittingCells : Stmt := top 27
abbrev sBlocks : Stmt := top 28
abbrev sStuckBlock : Stmt := top 29
abbrev sWithout : Stmt := top 30
abbrev sSingleGroup : Stmt := top 31
abbrev sCheckReader : Stmt := top 32
abbrev sWithLog : Stmt := top 38
abbrev sAgainst : Stmt := top 39
abbrev sGrown : Stmt := top 41
abbrev sLawBox : Stmt := top 44
abbrev sLawTake : Stmt := top 45
abbrev sLawOf : Stmt := top 46
abbrev sLawCells : Stmt := top 47
abbrev sLawValues : Stmt := top 48
abbrev sLawTree : Stmt := top 49
abbrev sLawLeaves : Stmt := top 50
abbrev sLawLoose : Stmt := top 51
abbrev sLawShared : Stmt := top 52
abbrev sLawParts : Stmt := top 53
abbrev sLawFits : Stmt := top 54
abbrev sLawIsStuck : Stmt := top 55
abbrev sLawProduct : Stmt := top 56
abbrev sLawGood : Stmt := top 57
abbrev sLawMixed : Stmt := top 58
abbrev sLawFilled : Stmt := top 59
abbrev sLawLetIn : Stmt := top 60
abbrev sLawRight : Stmt := top 61
abbrev sLaw : Stmt := top 62
abbrev sRecInit : Stmt := inClass (top 42) 0
abbrev sRecLen : Stmt := inClass (top 42) 2
abbrev sRecAct : Stmt := inClass (top 42) 3
abbrev sRecAdd : Stmt := inClass (top 42) 4
abbrev sRecDrop : Stmt := inClass (top 42) 6
abbrev sRecLogs : Stmt := inClass (top 42) 9
abbrev sStuckInit : Stmt := inClass (top 4) 0
abbrev FnD (K : PySem.W.Frag) (x : Str) (st : Stmt) : Prop := ∃ fd, FunD K x x (defArgs st) (defBody st) (defScope st) [] [] (He.ga K x) fd
abbrev MtD (K : PySem.W.Frag) (C m qual : Str) (st : Stmt) (dvs : List V) : Prop := ∃ fd, FunD K m qual (defArgs st) (defBody st) (defScope st) dvs [] (He.ma K (He.ga K C) m) fd
/-- what the walk asks of the top: builtins that are still the built-in ones, constants, defs -/
structure Tx (K : PySem.W.Frag) (mg : Str → Option Value) : Prop where
  b_len : mg "len" = none
  b_isinstance : mg "isinstance" = none
  b_all : mg "all" = none
  b_zip : mg "zip" = none
  b_dict : mg "dict" = none
  b_tuple : mg "tuple" = none
  b_sorted : mg "sorted" = none
  b_set : mg "set" = none
  b_range : mg "range" = none
  b_min : mg "min" = none
  b_max : mg "max" = none
  b_abs : mg "abs" = none
  b_int : mg "int" = none
  b_list : mg "list" = none
  b_str : mg "str" = none
  b_bool : mg "bool" = none
  c_MOST_LOGS : ∃ t, mg "MOST_LOGS" = some (.int 300 t)
  c_MOST_CELLS : ∃ t, mg "MOST_CELLS" = some (.int 60 t)
  c_MOST_LETTERS : ∃ t, mg "MOST_LETTERS" = some (.int 8 t)
  c_MOST_VALUE : ∃ t, mg "MOST_VALUE" = some (.int 1000000000 t)
  c_PAIR : ∃ t, mg "PAIR" = some (.int 2 t)
  c_LETTERS : ∃ t, mg "LETTERS" = some (.str "abcdefghijklmnopqrstuvwxyz" t)
  d_is_cell : FnD K "is_cell" sIsCell
  g_is_cell : mg "is_cell" = some (.ref (He.ga K "is_cell"))
  d_is_value : FnD K "is_value" sIsValue
  g_is_value : mg "is_value" = some (.ref (He.ga K "is_value"))
  d_is_pair : FnD K "is_pair" sIsPair
  g_is_pair : mg "is_pair" = some (.ref (He.ga K "is_pair"))
  d_has_log_form : FnD K "has_log_form" sHasLogForm
  g_has_log_form : mg "has_log_form" = some (.ref (He.ga K "has_log_form"))
  d_is_log : FnD K "is_log" sIsLog
  g_is_log : mg "is_log" = some (.ref (He.ga K "is_log"))
  d_have_logs_form : FnD K "have_logs_form" sHaveLogsForm
  g_have_logs_form : mg "have_logs_form" = some (.ref (He.ga K "have_logs_form"))
  d_is_logs : FnD K "is_logs" sIsLogs
  g_is_logs : mg "is_logs" = some (.ref (He.ga K "is_logs"))
  d_shared_cells : FnD K "shared_cells" sSharedCells
  g_shared_cells : mg "shared_cells" = some (.ref (He.ga K "shared_cells"))
  d_parts_by : FnD K "parts_by" sPartsBy
  g_parts_by : mg "parts_by" = some (.ref (He.ga K "parts_by"))
  d_splitting_cells : FnD K "splitting_cells" sSplittingCells
  g_splitting_cells : mg "splitting_cells" = some (.ref (He.ga K "splitting_cells"))
  d_blocks : FnD K "blocks" sBlocks
  g_blocks : mg "blocks" = some (.ref (He.ga K "blocks"))
  d_stuck_block : FnD K "stuck_block" sStuckBlock
  g_stuck_block : mg "stuck_block" = some (.ref (He.ga K "stuck_block"))
  d_without : FnD K "without" sWithout
  g_without : mg "without" = some (.ref (He.ga K "without"))
  d_single_group : FnD K "single_group" sSingleGroup
  g_single_group : mg "single_group" = some (.ref (He.ga K "single_group"))
  d_check_reader : FnD K "check_reader" sCheckReader
  g_check_reader : mg "check_reader" = some (.ref (He.ga K "check_reader"))
  d_with_log : FnD K "with_log" sWithLog
  g_with_log : mg "with_log" = some (.ref (He.ga K "with_log"))
  d_against : FnD K "against" sAgainst
  g_against : mg "against" = some (.ref (He.ga K "against"))
  d_grown : FnD K "grown" sGrown
  g_grown : mg "grown" = some (.ref (He.ga K "grown"))
  d__law_box : FnD K "_law_box" sLawBox
  g__law_box : mg "_law_box" = some (.ref (He.ga K "_law_box"))
  d__law_take : FnD K "_law_take" sLawTake
  g__law_take : mg "_law_take" = some (.ref (He.ga K "_law_take"))
  d__law_of : FnD K "_law_of" sLawOf
  g__law_of : mg "_law_of" = some (.ref (He.ga K "_law_of"))
  d__law_cells : FnD K "_law_cells" sLawCells
  g__law_cells : mg "_law_cells" = some (.ref (He.ga K "_law_cells"))
  d__law_values : FnD K "_law_values" sLawValues
  g__law_values : mg "_law_values" = some (.ref (He.ga K "_law_values"))
  d__law_tree : FnD K "_law_tree" sLawTree
  g__law_tree : mg "_law_tree" = some (.ref (He.ga K "_law_tree"))
  d__law_leaves : FnD K "_law_leaves" sLawLeaves
  g__law_leaves : mg "_law_leaves" = some (.ref (He.ga K "_law_leaves"))
  d__law_loose : FnD K "_law_loose" sLawLoose
  g__law_loose : mg "_law_loose" = some (.ref (He.ga K "_law_loose"))
  d__law_shared : FnD K "_law_shared" sLawShared
  g__law_shared : mg "_law_shared" = some (.ref (He.ga K "_law_shared"))
  d__law_parts : FnD K "_law_parts" sLawParts
  g__law_parts : mg "_law_parts" = some (.ref (He.ga K "_law_parts"))
  d__law_fits : FnD K "_law_fits" sLawFits
  g__law_fits : mg "_law_fits" = some (.ref (He.ga K "_law_fits"))
  d__law_is_stuck : FnD K "_law_is_stuck" sLawIsStuck
  g__law_is_stuck : mg "_law_is_stuck" = some (.ref (He.ga K "_law_is_stuck"))
  d__law_product : FnD K "_law_product" sLawProduct
  g__law_product : mg "_law_product" = some (.ref (He.ga K "_law_product"))
  d__law_good : FnD K "_law_good" sLawGood
  g__law_good : mg "_law_good" = some (.ref (He.ga K "_law_good"))
  d__law_mixed : FnD K "_law_mixed" sLawMixed
  g__law_mixed : mg "_law_mixed" = some (.ref (He.ga K "_law_mixed"))
  d__law_filled : FnD K "_law_filled" sLawFilled
  g__law_filled : mg "_law_filled" = some (.ref (He.ga K "_law_filled"))
  d__law_let_in : FnD K "_law_let_in" sLawLetIn
  g__law_let_in : mg "_law_let_in" = some (.ref (He.ga K "_law_let_in"))
  d__law_right : FnD K "_law_right" sLawRight
  g__law_right : mg "_law_right" = some (.ref (He.ga K "_law_right"))
end RO

namespace RO
open PySem PySem.Spec PyProof.Rows L2
section
variable {P : Program} {w : World} {K : PySem.W.Frag} {mg : Str → Option Value} {base : Heap}
/-- a def of the module by its body -/
theorem mk_cal {x : Str} {st : Stmt} {f : Addr} {fd : FuncData} {N ps : List Str} {k : Nat} {sp : Sp} (F : FunD K x x (defArgs st) (defBody st) (defScope st) [] [] f fd) (g : mg x = some (.ref f)) (S : FnScope N ps (defScope st))
    (h : ∀ (kV doc pm : Value) (an : Option Addr) (cdv ct : Value) (us : List Value), us.length = ps.length → bindArgs (PySem.W.fnOf x x (defArgs st) (defBody st) (defScope st) .none kV doc pm an cdv ct) ⟨us, []⟩ = pure (ps.zip us))
    (len : ∀ vs H Q E, sp vs H Q E → vs.length = ps.length)
    (hbody : ∀ (cdv : Value) (A : Around) (outer : List Env) (s : Shared) (H : Hp) (vs : List V) (Q : VK) (E : XK), Room k (A.deeper (envOfC x (defScope st) s.heap.objs.size f cdv)) → sp vs H Q E →
      ∃ t, PSs (cxOf CX0 P w K mg base N x (defScope st) f cdv A outer s H E).nox (defBody st) t ∧ t { nx := fun _ H' => Q .non H', rt := Q } (start N vs) H) : C8.Cal P w K mg base (k + 1) x sp [] :=
  ⟨f, fd, ps, [], F.ok S len fun cdv A outer s H vs Q E hr hs => let ⟨t, h1, h2⟩ := hbody cdv A outer s H vs Q E hr hs; ⟨t, h1.nox, h2⟩, g, F.kp, F.bindsN h, .nil⟩
end
/-! ### heaps -/
/-- all but the objects at W is as it was -/
def Ke (W : List Addr) (H H' : Hp) : Prop := ∀ b o, H b = some o → b ∉ W → H' b = some o
/-- these may be written -/
def Wok (W : List Addr) (H : Hp) : Prop := ∀ b ∈ W, Mut (H b)
theorem Ke.rfl {W : List Addr} {H : Hp} : Ke W H H := fun _ _ e _ => e
theorem Ke.trans {W : List Addr} {H H1 H2 : Hp} (a : Ke W H H1) (b : Ke W H1 H2) : Ke W H H2 := fun c o e n => b c o (a c o e n) n
theorem Ke.mono {W W' : List Addr} {H H1 : Hp} (a : Ke W H H1) (h : ∀ b ∈ W, b ∈ W') : Ke W' H H1 := fun c o e n => a c o e fun z => n (h c z)
theorem Ke.any {W : List Addr} {H H1 : Hp} (a : Ke [] H H1) : Ke W H H1 := a.mono fun _ z => nomatch z
theorem Ke.new {W : List Addr} {H : Hp} {p : Addr} {o : HO} (h : H p = none) : Ke W H (upd H p o) := fun b u e _ => by rw [upd_ne (ne_of_none e h)]; exact e
theorem Ke.on {W : List Addr} {H : Hp} {p : Addr} {o : HO} (h : p ∈ W) : Ke W H (upd H p o) := fun b u e n => by
  have z : b ≠ p := fun z => n (by rw [z]; exact h)
  rw [upd_ne z]; exact e
/-- an object that the first heap did not have was written -/
theorem Ke.own {W : List Addr} {H H1 : Hp} {p : Addr} {o : HO} (a : Ke W H H1) (h : H p = none) : Ke W H (upd H1 p o) := fun b u e n => by rw [upd_ne (ne_of_none e h)]; exact a b u e n
theorem Ke.same {H H1 : Hp} (a : Ke [] H H1) : Same H H1 := fun b o e => a b o e (by simp)
theorem Same.ke {H H1 : Hp} {W : List Addr} (a : Same H H1) : Ke W H H1 := fun b o e _ => a b o e
theorem Ke.free {H H' : Hp} (e : Ke [] H H') {l : Addr} (h : H' l = none) : H l = none := e.same.free h
theorem Wok.nil {H : Hp} : Wok [] H := fun _ z => nomatch z
theorem Wok.one {H : Hp} {p : Addr} (h : Mut (H p)) : Wok [p] H := fun b z => by rw [List.mem_singleton.mp z]; exact h
theorem mut_lst {H : Hp} {p : Addr} {xs : List V} (h : H p = some (.lst xs)) : Mut (H p) := by rw [h]; trivial
theorem mut_ins {H : Hp} {p C dx : Addr} {fs : List (Str × V)} (h : H p = some (.ins C dx fs)) : Mut (H p) := by rw [h]; trivial
theorem Ke.tup {W : List Addr} {H H' : Hp} {t : Addr} {xs : List V} (k : Ke W H H') (w : Wok W H) (h : H t = some (.tup xs)) : H' t = some (.tup xs) := k t _ h fun z => by have := w t z; rw [h] at this; exact this
theorem Ke.frz {W : List Addr} {H H' : Hp} {t : Addr} {o : Obj} {u : HO} (k : Ke W H H') (w : Wok W H) (h : H t = some (.frz o u)) : H' t = some (.frz o u) := k t _ h fun z => by have := w t z; rw [h] at this; exact this
theorem Ke.sqt {W : List Addr} {K : PySem.W.Frag} {H H' : Hp} {t : Addr} {xs : List V} (k : Ke W H H') (w : Wok W H) (h : SqT K H t xs) : SqT K H' t xs := by
  rcases h with (h | ⟨o, h⟩) | h
  · exact .inl (.inl (k.tup w h))
  · exact .inl (.inr ⟨o, k.frz w h⟩)
  · exact .inr h
theorem Ke.sql {K : PySem.W.Frag} {H H' : Hp} {t : Addr} {xs : List V} (k : Ke [] H H') (h : SqL K H t xs) : SqL K H' t xs := k.same.seq h
end RO
namespace RO
open PySem PySem.Spec PyProof.Rows L2
section
variable {X : Cx} {x : Str} {pos : Pos}
/-- a module's number, text -/
theorem pgi {i : Int} (hg : Gl X x) (h : ∃ t, X.mg x = some (.int i t)) (hd : (x == ("__debug__" : Str)) = false := by decide) : PE X (.Name x pos) (tC (.int i)) := let ⟨t, e⟩ := h; pe_glob hg e (v := .int i) ⟨t, rfl⟩ hd
theorem pgs {z : Str} (hg : Gl X x) (h : ∃ t, X.mg x = some (.str z t)) (hd : (x == ("__debug__" : Str)) = false := by decide) : PE X (.Name x pos) (tC (.str z)) := let ⟨t, e⟩ := h; pe_glob hg e (v := .str z) ⟨t, rfl⟩ hd
/-- a built-in class as a value -/
theorem pgt {n : String} (hg : Gl X x) (hm : X.mg x = none) (hv : bootBuiltins x = some (.type n)) (hn : x ≠ "__name__" := by decide) (hd : (x == ("__debug__" : Str)) = false := by decide) : PE X (.Name x pos) (tC (.ty n)) := pe_bltn hg hm hv rfl hn hd
end
theorem boot_isinstance : bootBuiltins "isinstance" = some (.builtin "isinstance") := by decide +kernel
theorem boot_all : bootBuiltins "all" = some (.builtin "all") := by decide +kernel
theorem boot_sorted : bootBuiltins "sorted" = some (.builtin "sorted") := by decide +kernel
theorem boot_min : bootBuiltins "min" = some (.builtin "min") := by decide +kernel
theorem boot_max : bootBuiltins "max" = some (.builtin "max") := by decide +kernel
theorem boot_abs : bootBuiltins "abs" = some (.builtin "abs") := by decide +kernel
theorem boot_tuple : bootBuiltins "tuple" = some (.type "tuple") := by decide +kernel
theorem boot_list : bootBuiltins "list" = some (.type "list") := by decide +kernel
theorem boot_dict : bootBuiltins "dict" = some (.type "dict") := by decide +kernel
theorem boot_int : bootBuiltins "int" = some (.type "int") := by decide +kernel
theorem boot_str : bootBuiltins "str" = some (.type "str") := by decide +kernel
theorem boot_bool : bootBuiltins "bool" = some (.type "bool") := by decide +kernel
end RO
namespace L2
open PySem PySem.Spec PyProof.Rows
/-- what is known behind i turns of a comprehension whose list stands at D -/
def Acc (D : Addr) (Ac : Nat → List V → Hp → Prop) (i : Nat) (H : Hp) : Prop := ∃ acc, H D = some (.lst acc) ∧ acc.length ≤ i ∧ Ac i acc H
/-- one item more -/
theorem Acc.more {D : Addr} {Ac : Nat → List V → Hp → Prop} {i : Nat} {H : Hp} {acc : List V} {y : V} (h : H D = some (.lst acc)) (hl : acc.length ≤ i) (hz : i < 1000000) (a : Ac (i + 1) (acc ++ [y]) (upd H D (.lst (acc ++ [y])))) :
    ∃ acc, H D = some (.lst acc) ∧ acc.length < sizeLine ∧ Acc D Ac (i + 1) (upd H D (.lst (acc ++ [y]))) :=
  ⟨acc, h, by rw [sizeLine_eq]; omega, acc ++ [y], upd_same, by rw [List.length_append, List.length_singleton]; omega, a⟩
theorem Acc.skip {D : Addr} {Ac : Nat → List V → Hp → Prop} {i : Nat} {H : Hp} {acc : List V} (h : H D = some (.lst acc)) (hl : acc.length ≤ i) (a : Ac (i + 1) acc H) : Acc D Ac (i + 1) H := ⟨acc, h, by omega, a⟩
/-- a comprehension by what is known of the items so far -/
theorem lc_ac {J : It} {n : Nat} {G : Hp → Prop} {Y : Nat → Hp → V → Hp → Prop} (w : Walk J n G Y) {g : TG} {tt : TT} {te : TE} {vs : List Nat} {σ : St} {H1 : Hp} {D : Addr} {Qd : Hp → Prop} (Ac : Nat → List V → Hp → Prop)
    (h0 : Ac 0 [] (upd H1 D (.lst []))) (hG : ∀ i acc H, i ≤ n → H D = some (.lst acc) → Ac i acc H → G H)
    (hs : ∀ i x acc H H', i < n → H D = some (.lst acc) → acc.length ≤ i → Ac i acc H → Y i H x H' → g x (wipe σ vs) H' fun σ2 H2 => wipe σ2 vs = wipe σ vs ∧ tt σ2 H2 fun b H3 =>
      if b = true then te σ2 H3 fun y H4 => ∃ acc, H4 D = some (.lst acc) ∧ acc.length < sizeLine ∧ Acc D Ac (i + 1) (upd H4 D (.lst (acc ++ [y]))) else Acc D Ac (i + 1) H3)
    (hd : ∀ acc H, H D = some (.lst acc) → acc.length ≤ n → Ac n acc H → Qd H) :
    ∃ W : Nat → Nat → Hp → Prop, (∃ m, W 0 m (upd H1 D (.lst []))) ∧ ∀ i m H, W i m H →
      (J.stop i H ∧ Qd H) ∨ (J.go i H ∧ ∃ Nx : Hp → Prop, (∀ H', Nx H' → ∃ m', m' < m ∧ W (i + 1) m' H') ∧ ∀ x H', J.yld i H x H' → g x (wipe σ vs) H' fun σ2 H2 => wipe σ2 vs = wipe σ vs ∧ tt σ2 H2 fun b H3 =>
        if b = true then te σ2 H3 fun y H4 => ∃ acc, H4 D = some (.lst acc) ∧ acc.length < sizeLine ∧ Nx (upd H4 D (.lst (acc ++ [y]))) else Nx H3) :=
  lc_it w (Acc D Ac) ⟨[], upd_same, Nat.le_refl _, h0⟩ (fun i H hi ⟨acc, e, _, a⟩ => hG i acc H hi e a) (fun i x H H' hi ⟨acc, e, hl, a⟩ y => hs i x acc H H' hi e hl a y) fun H ⟨acc, e, hl, a⟩ => hd acc H e hl a
end L2
namespace L2
open PySem PySem.Spec PyProof.Rows
theorem yes_ite {σ : St} {H : Hp} {A B : Hp → Prop} (h : A H) : tYes σ H (fun b H3 => if b = true then A H3 else B H3) := by
  show if true = true then A H else B H
  rw [if_pos rfl]
  exact h
/-- behind a test -/
theorem ite_t {b : Bool} {A B : Prop} (e : b = true) (h : A) : if b = true then A else B := by rw [if_pos e]; exact h
theorem ite_f {b : Bool} {A B : Prop} (e : b = false) (h : B) : if b = true then A else B := by rw [if_neg (by rw [e]; exact Bool.false_ne_true)]; exact h
end L2

/-! text P1 -/
set_option Elab.async false
set_option linter.all false
set_option maxRecDepth 100000
set_option maxHeartbeats 1000000
/-! Logs and groups of logs in the heap. -/
namespace L2
open PySem PySem.Spec PyProof.Rows
theorem Paired.get {α β : Type} {F : α → β → Prop} : ∀ {xs : List α} {ys : List β}, Paired F xs ys → ∀ (i : Nat) (x : α), xs[i]? = some x → ∃ y, ys[i]? = some y ∧ F x y
  | _, _, .nil, i, x, h => by simp at h
  | _, _, .cons (b := b) h t, 0, x, e => ⟨b, by simp, by simp at e; rw [← e]; exact h⟩
  | _, _, .cons h t, i + 1, x, e => by
    obtain ⟨y, h1, h2⟩ := Paired.get t i x (by simpa using e)
    exact ⟨y, by simpa using h1, h2⟩
theorem Paired.getR {α β : Type} {F : α → β → Prop} : ∀ {xs : List α} {ys : List β}, Paired F xs ys → ∀ (i : Nat) (y : β), ys[i]? = some y → ∃ x, xs[i]? = some x ∧ F x y
  | _, _, .nil, i, x, h => by simp at h
  | _, _, .cons (a := a) h t, 0, y, e => ⟨a, by simp, by simp at e; rw [← e]; exact h⟩
  | _, _, .cons h t, i + 1, y, e => by
    obtain ⟨x, h1, h2⟩ := Paired.getR t i y (by simpa using e)
    exact ⟨x, by simpa using h1, h2⟩
theorem Paired.app {α β : Type} {F : α → β → Prop} : ∀ {xs xs' : List α} {ys ys' : List β}, Paired F xs ys → Paired F xs' ys' → Paired F (xs ++ xs') (ys ++ ys')
  | _, _, _, _, .nil, h => h
  | _, _, _, _, .cons h t, h' => .cons h (Paired.app t h')
theorem Paired.take {α β : Type} {F : α → β → Prop} : ∀ (n : Nat) {xs : List α} {ys : List β}, Paired F xs ys → Paired F (xs.take n) (ys.take n)
  | 0, _, _, _ => by rw [List.take_zero, List.take_zero]; exact .nil
  | _ + 1, _, _, .nil => .nil
  | n + 1, _, _, .cons h t => .cons h (Paired.take n t)
theorem Paired.drop {α β : Type} {F : α → β → Prop} : ∀ (n : Nat) {xs : List α} {ys : List β}, Paired F xs ys → Paired F (xs.drop n) (ys.drop n)
  | 0, _, _, h => h
  | _ + 1, _, _, .nil => .nil
  | n + 1, _, _, .cons h t => Paired.drop n t
/-- any rearrangement of the one side goes with one of the other -/
theorem Paired.perm {α β : Type} {F : α → β → Prop} {xs xs' : List α} (p : xs'.Perm xs) : ∀ {ys : List β}, Paired F xs ys → ∃ ys', ys'.Perm ys ∧ Paired F xs' ys' := by
  induction p with
  | nil => intro ys h; exact ⟨ys, .refl _, h⟩
  | cons x p ih =>
    intro ys h
    cases h with
    | cons h t =>
      obtain ⟨ys', q, r⟩ := ih t
      exact ⟨_, q.cons _, .cons h r⟩
  | swap x y l =>
    intro ys h
    cases h with
    | cons h t => cases t with
      | cons h' t => exact ⟨_, List.Perm.swap .., .cons h' (.cons h t)⟩
  | trans p q ih1 ih2 =>
    intro ys h
    obtain ⟨ys1, q1, r1⟩ := ih2 h
    obtain ⟨ys2, q2, r2⟩ := ih1 r1
    exact ⟨ys2, q2.trans q1, r2⟩
theorem pe_never {X : Cx} {e : Expr} : PE X e (fun _ _ _ => False) := ⟨fun _ _ _ _ _ _ h => h.elim⟩
theorem sqT_ty {K : PySem.W.Frag} {H : Hp} {t : Addr} {xs : List V} (h : SqT K H t xs) : TyX K H (.ref t) (.type "tuple") := by
  rcases h with (h | ⟨o, h⟩) | ⟨o, its, n, h1, h2, _⟩
  · exact .base (.tup h)
  · exact .fTuple h
  · exact .kTuple h1 h2
end L2
namespace RO
open PySem PySem.Spec PyProof.Rows L2
abbrev Log := List (Str × Int)
def eP (p : Str × Int) : PyData := .tuple [.str p.1, .int p.2]
def eL (l : Log) : PyData := .tuple (l.map eP)
section
variable (K : PySem.W.Frag) (H : Hp)
/-- a pair of a cell and a value -/
def PairV (v : V) (p : Str × Int) : Prop := ∃ t, v = .ref t ∧ SqT K H t [.str p.1, .int p.2]
/-- a log: a tuple of pairs, its object told -/
def LogV (v : V) (l : Log) : Prop := ∃ (a : Addr) (o : Obj) (xs : List V), v = .ref a ∧ o.dict = none ∧ H a = some (.frz o (.tup xs)) ∧ Paired (PairV K H) xs l
abbrev LogsV (xs : List V) (g : List Log) : Prop := Paired (LogV K H) xs g
/-- a tuple of logs -/
def GrpT (v : V) (g : List Log) : Prop := ∃ (a : Addr) (xs : List V), v = .ref a ∧ SqT K H a xs ∧ LogsV K H xs g
end
section
variable {K : PySem.W.Frag} {H H' : Hp} {W : List Addr}
theorem Ke.pair (k : Ke W H H') (w : Wok W H) {v : V} {p : Str × Int} : PairV K H v p → PairV K H' v p := fun ⟨t, e, h⟩ => ⟨t, e, k.sqt w h⟩
theorem Ke.log (k : Ke W H H') (w : Wok W H) {v : V} {l : Log} : LogV K H v l → LogV K H' v l := fun ⟨a, o, xs, e, d, h, p⟩ => ⟨a, o, xs, e, d, k.frz w h, Paired.mapP p fun _ _ => k.pair w⟩
theorem Ke.logs (k : Ke W H H') (w : Wok W H) {xs : List V} {g : List Log} : LogsV K H xs g → LogsV K H' xs g := fun h => Paired.mapP h fun _ _ => k.log w
theorem Ke.grp (k : Ke W H H') (w : Wok W H) {v : V} {g : List Log} : GrpT K H v g → GrpT K H' v g := fun ⟨a, xs, e, s, l⟩ => ⟨a, xs, e, k.sqt w s, k.logs w l⟩
theorem LogV.sqt {v : V} {l : Log} (h : LogV K H v l) : ∃ a xs, v = .ref a ∧ SqT K H a xs ∧ Paired (PairV K H) xs l := let ⟨a, o, xs, e, _, h, p⟩ := h; ⟨a, xs, e, .inl (.inr ⟨o, h⟩), p⟩
theorem PairV.dp {v : V} {p : Str × Int} (h : PairV K H v p) : Dp K H v (eP p) := by
  obtain ⟨t, rfl, h⟩ := h
  exact .tup h (.cons (.str _) (.cons (.int _) .nil))
theorem pairs_dp : ∀ {xs : List V} {l : Log}, Paired (PairV K H) xs l → DpAll K H xs (l.map eP)
  | _, _, .nil => .nil
  | _, _, .cons h t => .cons h.dp (pairs_dp t)
theorem LogV.dp {v : V} {l : Log} (h : LogV K H v l) : Dp K H v (eL l) := by
  obtain ⟨a, xs, rfl, s, p⟩ := h.sqt
  exact .tup s (pairs_dp p)
theorem logs_dp : ∀ {xs : List V} {g : List Log}, LogsV K H xs g → DpAll K H xs (g.map eL)
  | _, _, .nil => .nil
  | _, _, .cons h t => .cons h.dp (logs_dp t)
theorem GrpT.dp {v : V} {g : List Log} (h : GrpT K H v g) : Dp K H v (.tuple (g.map eL)) := by
  obtain ⟨a, xs, rfl, s, p⟩ := h
  exact .tup s (logs_dp p)
end
/-! ### what a log must be for the program -/
def IsCell (c : Str) : Prop := 0 < c.length ∧ c.length ≤ 8 ∧ ∀ x ∈ c.cps.toList, 97 ≤ x ∧ x ≤ 122
def cLt (c d : Str) : Prop := c.cps.toList < d.cps.toList
structure WfLog (l : Log) : Prop where
  asc : l.Pairwise fun p q => cLt p.1 q.1
  ok : ∀ p ∈ l, IsCell p.1 ∧ 0 ≤ p.2 ∧ p.2 ≤ 1000000000
  len : l.length ≤ 60
/-! ### the data of logs -/
theorem IsCell.strOk {c : Str} (h : IsCell c) : PyData.strOk c = true := by
  unfold PyData.strOk
  rw [← Array.all_toList, List.all_eq_true]
  intro x hx
  have := h.2.2 x hx
  exact decide_eq_true (by omega)
theorem lay_eP {p : Str × Int} (h : IsCell p.1) : PyData.canLay0 (eP p) = true := by simp [eP, PyData.canLay0, PyData.canLayAll0, h.strOk]
theorem layAll {α : Type} (f : α → PyData) : ∀ xs : List α, (∀ x ∈ xs, PyData.canLay0 (f x) = true) → PyData.canLayAll0 (xs.map f) = true
  | [], _ => by simp [PyData.canLayAll0]
  | x :: xs, h => by
    have ih := layAll f xs fun y hy => h y (List.mem_cons_of_mem _ hy)
    simp [PyData.canLayAll0, h x (List.mem_cons_self ..), ih]
theorem lay_eL {l : Log} (w : WfLog l) : PyData.canLay0 (eL l) = true := by
  have h := layAll eP l fun p hp => lay_eP (w.ok p hp).1
  simp [eL, PyData.canLay0, h]
theorem lay_logs {g : List Log} (w : ∀ l ∈ g, WfLog l) : PyData.canLayAll0 (g.map eL) = true := layAll eL g fun l hl => lay_eL (w l hl)
theorem depthAll_le {α : Type} (f : α → PyData) (n : Nat) (h : ∀ x, (f x).depth ≤ n) : ∀ xs : List α, PyData.depthAll (xs.map f) ≤ n
  | [] => by simp [PyData.depthAll]
  | x :: xs => by
    have ih := depthAll_le f n h xs
    have := h x
    simp only [List.map_cons, PyData.depthAll]
    omega
theorem depth_eP (p : Str × Int) : (eP p).depth ≤ 1 := by simp [eP, PyData.depth, PyData.depthAll]
theorem depth_eL (l : Log) : (eL l).depth ≤ 2 := by
  have h := depthAll_le eP 1 depth_eP l
  simp only [eL, PyData.depth]
  omega
theorem eqv_eP (p q : Str × Int) : PyData.eqv (eP p) (eP q) = decide (p = q) := by
  obtain ⟨c, v⟩ := p
  obtain ⟨c', v'⟩ := q
  simp only [eP, PyData.eqv, PyData.eqvAll, Bool.and_true]
  by_cases h1 : c = c' <;> by_cases h2 : v = v' <;> simp [h1, h2]
theorem eqvAll_map {α : Type} [DecidableEq α] (f : α → PyData) (h : ∀ x y, PyData.eqv (f x) (f y) = decide (x = y)) : ∀ xs ys : List α, PyData.eqvAll (xs.map f) (ys.map f) = decide (xs = ys)
  | [], [] => by simp [PyData.eqvAll]
  | [], _ :: _ => by simp [PyData.eqvAll]
  | _ :: _, [] => by simp [PyData.eqvAll]
  | x :: xs, y :: ys => by
    have ih := eqvAll_map f h xs ys
    simp only [List.map_cons, PyData.eqvAll, h, ih]
    by_cases h1 : x = y <;> by_cases h2 : xs = ys <;> simp [h1, h2]
theorem eqv_eL (l m : Log) : PyData.eqv (eL l) (eL m) = decide (l = m) := by
  simp only [eL, PyData.eqv]
  exact eqvAll_map eP eqv_eP l m
theorem any_eL (g : List Log) (l : Log) : ((g.map eL).any fun z => PyData.eqv z (eL l)) = decide (l ∈ g) := by
  rw [List.any_map]
  by_cases h : l ∈ g
  · rw [decide_eq_true h, List.any_eq_true]
    exact ⟨l, h, by show PyData.eqv (eL l) (eL l) = true; rw [eqv_eL]; simp⟩
  · rw [decide_eq_false h, List.any_eq_false]
    intro x hx
    show ¬ PyData.eqv (eL x) (eL l) = true
    rw [eqv_eL, decide_eq_true_eq]
    rintro rfl
    exact h hx
/-! ### as sorting sees them -/
theorem alikeAll_map {α : Type} (f : α → PyData) (h : ∀ x y, PySem.W.alike (f x) (f y) = true) : ∀ xs ys : List α, PySem.W.alikeAll (xs.map f) (ys.map f) = true
  | [], _ => by simp [PySem.W.alikeAll]
  | _ :: _, [] => by simp [PySem.W.alikeAll]
  | x :: xs, y :: ys => by
    have ih := alikeAll_map f h xs ys
    simp [PySem.W.alikeAll, h x y, ih]
theorem alike_eP (p q : Str × Int) : PySem.W.alike (eP p) (eP q) = true := by simp [eP, PySem.W.alike, PySem.W.alikeAll]
theorem alike_eL (l m : Log) : PySem.W.alike (eL l) (eL m) = true := by
  have h := alikeAll_map eP alike_eP l m
  simp [eL, PySem.W.alike, h]
theorem alike_eG (g k : List Log) : PySem.W.alike (.tuple (g.map eL)) (.tuple (k.map eL)) = true := by
  have h := alikeAll_map eL alike_eL g k
  simp [PySem.W.alike, h]
end RO
namespace L2
open PySem PySem.Spec PyProof.Rows
/-- rules within a block, the written part named -/
theorem ixT {X : Cx} (K : PySem.W.Frag) (h : X.K = K := by rfl) : IxR X (rIxT K) := h ▸ ix_tup
theorem ixL {X : Cx} (K : PySem.W.Frag) (h : X.K = K := by rfl) : IxR X (rIxL K) := h ▸ ix_list
theorem crAll {X : Cx} (K : PySem.W.Frag) (hc : X.calm = true) (h : X.K = K := by rfl) : CallR X (.builtin "all") (rAll K) := h ▸ cr_all hc
end L2
namespace RO
open PySem PySem.Spec PyProof.Rows L2
/-- a comprehension whose items are all True -/
abbrev AcT (H0 : Hp) : Nat → List V → Hp → Prop := fun i acc H1 => acc = List.replicate i (V.bl true) ∧ Ke [] H0 H1
theorem AcT.more {D : Addr} {H0 H4 : Hp} {i : Nat} {acc : List V} (hD : H0 D = none) (hd : H4 D = some (.lst acc)) (hl : acc.length ≤ i) (hz : i < 1000000) (a : acc = List.replicate i (V.bl true)) (k : Ke [] H0 H4) :
    ∃ acc, H4 D = some (.lst acc) ∧ acc.length < sizeLine ∧ L2.Acc D (AcT H0) (i + 1) (upd H4 D (.lst (acc ++ [.bl true]))) :=
  L2.Acc.more hd hl hz ⟨by rw [a, List.replicate_succ'], k.own hD⟩
theorem AcT.sq {K : PySem.W.Frag} {D : Addr} {H1 : Hp} {n : Nat} {acc : List V} (hd : H1 D = some (.lst acc)) (a : acc = List.replicate n (V.bl true)) : SqL K H1 D ((List.replicate n true).map V.bl) := SqL.of (by rw [hd, a, List.map_replicate])
theorem allT (n : Nat) : (List.replicate n true).all id = true := by simp
/-- neighbours of an ascending log -/
theorem WfLog.step {l : Log} (w : WfLog l) {i : Nat} {p q : Str × Int} (h1 : l[i]? = some p) (h2 : l[i + 1]? = some q) : cLt p.1 q.1 := by
  obtain ⟨a1, e1⟩ := List.getElem?_eq_some_iff.mp h1
  obtain ⟨a2, e2⟩ := List.getElem?_eq_some_iff.mp h2
  have := List.pairwise_iff_getElem.mp w.asc i (i + 1) a1 a2 (Nat.lt_succ_self i)
  rw [e1, e2] at this
  exact this
end RO
namespace RO
open PySem PySem.Spec PyProof.Rows L2
section
variable {K : PySem.W.Frag} {H : Hp} {a b : Addr} {xs ys : List V} {Q : VK}
theorem cut_whole {lo hi : Option Int} (h : HT.sIx xs.length 0 lo = 0 ∧ HT.sIx xs.length xs.length hi = xs.length) : cutV xs lo hi = xs := by
  unfold cutV
  rw [h.1, h.2, List.drop_zero, Nat.sub_zero, List.take_length]
/-- t[lo:hi] -/
theorem slA_any {lo hi : Option Int} (h : SqT K H a xs) (q : ∀ p H', Ke [] H H' → SqT K H' p (cutV xs lo hi) → Q (.ref p) H') : rSlA K (.ref a) lo hi H Q :=
  ⟨a, xs, rfl, h, fun w => q a H Ke.rfl (by rw [cut_whole w]; exact h), fun _ p hp => q p _ (Ke.new hp) (SqT.of upd_same)⟩
theorem cut_from (k : Nat) : cutV xs (some (k : Int)) none = xs.drop k := by
  unfold cutV
  rw [HT.sIx_nat, HT.sIx_none]
  by_cases h : k ≤ xs.length
  · rw [Nat.min_eq_left h, List.take_of_length_le (by rw [List.length_drop]; omega)]
  · rw [Nat.min_eq_right (by omega), List.drop_length, List.take_nil, List.drop_eq_nil_of_le (by omega)]
theorem cut_to (k : Nat) : cutV xs none (some (k : Int)) = xs.take k := by
  unfold cutV
  rw [HT.sIx_nat, HT.sIx_none, List.drop_zero, Nat.sub_zero]
  by_cases h : k ≤ xs.length
  · rw [Nat.min_eq_left h]
  · rw [Nat.min_eq_right (by omega), List.take_length, List.take_of_length_le (by omega)]
/-- t + u -/
theorem catA_any (h1 : SqT K H a xs) (h2 : SqT K H b ys) (hz : xs.length + ys.length ≤ 1000000) (q : ∀ p H', Ke [] H H' → SqT K H' p (xs ++ ys) → Q (.ref p) H') : rCatA K (.ref a) (.ref b) H Q := by
  refine ⟨a, b, xs, ys, rfl, rfl, h1, h2, by rw [sizeLine_eq]; omega, fun e => ?_, fun _ e => ?_, fun _ _ p hp => q p _ (Ke.new hp) (SqT.of upd_same)⟩
  · refine q b H Ke.rfl ?_
    rw [e, List.nil_append]
    exact h2
  · refine q a H Ke.rfl ?_
    rw [e, List.append_nil]
    exact h1
theorem walk_zipT {n : Nat} (hn : n = min xs.length ys.length) : Walk (RZ.ItzT K a b) n (fun H => SqT K H a xs ∧ SqT K H b ys) (YPair (fun i => xs[i]?) (fun i => ys[i]?)) := by
  subst hn
  refine ⟨fun i _ hi q => ?_, fun _ q => ⟨xs, ys, q.1, q.2, by omega⟩, fun i H v H' _ q y => ?_⟩
  · have h1 : i < xs.length := by omega
    have h2 : i < ys.length := by omega
    exact ⟨xs, ys, xs[i], ys[i], q.1, q.2, by simp [h1], by simp [h2]⟩
  · obtain ⟨T, x, z, h1, h2, h3, h4, h5⟩ := y
    exact ⟨T, x, z, h1, h2, h3, h4 xs q.1, h5 ys q.2⟩
end
end RO

/-! text P2 -/
set_option Elab.async false
set_option linter.all false
set_option maxRecDepth 100000
set_option maxHeartbeats 1000000
/-! Slices and sums of tuples: what stands behind them, wherever it stands. -/
namespace RO
open PySem PySem.Spec PyProof.Rows L2
def rSlN (K : PySem.W.Frag) : V → Option Int → Option Int → Hp → VK → Prop := fun x lo hi H Q => ∃ a xs, x = .ref a ∧ SqT K H a xs ∧ ∀ p H', Ke [] H H' → SqT K H' p (cutV xs lo hi) → Q (.ref p) H'
def rCatN (K : PySem.W.Frag) : R2 := fun x y H Q => ∃ a b xs ys, x = .ref a ∧ y = .ref b ∧ SqT K H a xs ∧ SqT K H b ys ∧ xs.length + ys.length ≤ 1000000 ∧ ∀ p H', Ke [] H H' → SqT K H' p (xs ++ ys) → Q (.ref p) H'
section
variable {X : Cx}
theorem sl_tupN : SlR X (rSlN X.K) := by
  intro pins s σ H x v vl vu lo hi sl Q I rx hs pl pu h
  obtain ⟨a, xs, rfl, h1, h2⟩ := h
  exact sl_tupA pins s σ H _ v vl vu lo hi sl Q I rx hs pl pu (slA_any h1 h2)
theorem op_catN : OpR X (binaryOp .Add) (rCatN X.K) := by
  intro pins s σ H x y v u Q I rx ry h
  obtain ⟨a, b, xs, ys, rfl, rfl, h1, h2, h3, h4⟩ := h
  exact op_catA pins s σ H _ _ v u Q I rx ry (catA_any h1 h2 h3 h4)
end
/-- an expression that is not reached -/
def tNv : TE := fun _ _ _ => False
theorem pe_nv {X : Cx} {e : Expr} : PE X e tNv := ⟨fun _ _ _ _ _ _ h => h.elim⟩
end RO

/-! text D1 -/
set_option Elab.async false
set_option linter.all false
set_option maxRecDepth 100000
set_option maxHeartbeats 1000000
namespace RO
open PySem PySem.Spec PyProof.Rows L2
section
variable {P : Program} {w : World} {K : PySem.W.Frag} {mg : Str → Option Value} {base : Heap}
theorem in_letters {x : Nat} (h : 97 ≤ x ∧ x ≤ 122) : x ∈ (Str.ofString "abcdefghijklmnopqrstuvwxyz").cps.toList := by
  have key : ∀ i : Fin 26, (97 + i.val) ∈ (Str.ofString "abcdefghijklmnopqrstuvwxyz").cps.toList := by decide +kernel
  have e := key ⟨x - 97, by omega⟩
  have e2 : 97 + (x - 97) = x := by omega
  simpa [e2] using e
def spIsCell : Sp := fun vs H Q _ => ∃ c : Str, vs = [.str c] ∧ IsCell c ∧ ∀ H', Ke [] H H' → Q (.bl true) H'
theorem sc_IsCell : FnScope ["thing", "letter"] ["thing"] (defScope sIsCell) := ⟨rfl, rfl, rfl, by decide +kernel, rfl, by decide +kernel, by decide +kernel⟩
theorem ok_is_cell (T : Tx K mg) : C8.Cal P w K mg base 1 "is_cell" spIsCell [] := by
  obtain ⟨fd, F⟩ := T.d_is_cell
  refine mk_cal F T.g_is_cell sc_IsCell (fun _ _ _ _ _ _ us hl => match us, hl with | [_], _ => rfl) (fun vs H Q E h => ?_) (fun cdv A outer s H vs Q E hr h => ?_)
  · obtain ⟨c, rfl, _⟩ := h
    rfl
  · obtain ⟨c, rfl, hc, k⟩ := h
    refine ⟨_, pss_cons (ps_if (PW.pt (pw_or (pt_not (pt_val (pe_callB call_isi (by rfl) T.b_isinstance boot_isinstance (pa_cons (pv 0) (pa_cons (pgt (by rfl) T.b_str boot_str) pa_nil)))))
        (pw_or1 (pt_not (pt_chain op_lt op_le pe_int (pe_callB call_len_str (by rfl) T.b_len PySem.boot_len (pa_cons (pv 0) pa_nil)) (pgi (by rfl) T.c_MOST_LETTERS)))))) (pss_one (ps_ret pe_bl)) pss_nil)
      (pss_one (ps_ret (pe_callB (cr_all rfl) (by rfl) T.b_all boot_all (pa_cons (pe_lc (own := [("letter", 1)]) (g := gName 1) (tt := tYes) rfl sc_IsCell.nd (pi_str (pv 0))
        (blkOk_by (own := [("letter", 1)]) (N := ["thing", "letter"]) (sc := defScope sIsCell) (by decide +kernel)) (fun _ _ _ _ _ => pg_name (i := 1) sc_IsCell.nd rfl (Or.inl rfl)) (fun _ _ _ _ _ => pts_nil)
        (fun _ _ _ _ _ => pe_cmpR op_in_sign (pv 1) (pgs (by rfl) T.c_LETTERS) rfl)) pa_nil)))), ?_⟩
    obtain ⟨h1, h2, h3⟩ := id hc
    have hz : c.length ≤ sizeLine := by rw [sizeLine_eq]; omega
    refine ⟨_, rfl, _, _, _, _, true, rfl, .ty _, .base (.str c), by rfl, true, rfl, ?_⟩
    refine iteF ?_
    refine ⟨_, rfl, c, rfl, hz, 0, (c.length : Int), rfl, rfl, true, by simp; omega, iteT ?_⟩
    refine ⟨(c.length : Int), 8, rfl, rfl, true, by simp; omega, ?_⟩
    refine iteF ?_
    -- all([..])
    refine ⟨_, rfl, c, rfl, fun D hD => lc_ac walk_str (fun i acc H1 => acc = List.replicate i (.bl true) ∧ Ke [] H H1) ⟨rfl, Ke.new hD⟩ (fun _ _ _ _ _ _ => trivial) (fun i x acc H1 H2 hi hd hl a y => ?_) (fun acc H1 hd hl a => ?_)⟩
    · obtain ⟨rfl, ch, e1, rfl⟩ := y
      have hm : ch ∈ c.cps.toList := by
        rw [← Array.getElem?_toList] at e1
        exact List.mem_of_getElem? e1
      have hin : ch ∈ (Str.ofString "abcdefghijklmnopqrstuvwxyz").cps.toList := in_letters (h3 ch hm)
      refine ⟨rfl, ?_⟩
      refine yes_ite ?_
      refine ⟨_, rfl, ch, _, rfl, rfl, Acc.more hd hl (by have e : c.cps.size = c.length := rfl; omega) ⟨?_, a.2.own hD⟩⟩
      rw [a.1, decide_eq_true hin, List.replicate_succ']
    · refine ⟨D, List.replicate c.cps.size true, rfl, SqL.of (by rw [hd, a.1, List.map_replicate]), ?_⟩
      have e : (List.replicate c.cps.size true).all id = true := by simp
      rw [e]
      exact k H1 a.2
end
end RO

/-! text D2 -/
set_option Elab.async false
set_option linter.all false
set_option maxRecDepth 100000
set_option maxHeartbeats 1000000
namespace RO
open PySem PySem.Spec PyProof.Rows L2
section
variable {P : Program} {w : World} {K : PySem.W.Frag} {mg : Str → Option Value} {base : Heap}
/-! ### is_value -/
def spIsValue : Sp := fun vs H Q _ => ∃ i : Int, vs = [.int i] ∧ 0 ≤ i ∧ i ≤ 1000000000 ∧ Q (.bl true) H
theorem sc_IsValue : FnScope ["thing"] ["thing"] (defScope sIsValue) := ⟨rfl, rfl, rfl, by decide +kernel, rfl, by decide +kernel, by decide +kernel⟩
theorem ok_is_value (T : Tx K mg) : C8.Cal P w K mg base 1 "is_value" spIsValue [] := by
  obtain ⟨fd, F⟩ := T.d_is_value
  refine mk_cal F T.g_is_value sc_IsValue (fun _ _ _ _ _ _ us hl => match us, hl with | [_], _ => rfl) (fun vs H Q E h => ?_) (fun cdv A outer s H vs Q E hr h => ?_)
  · obtain ⟨i, rfl, _⟩ := h
    rfl
  · obtain ⟨i, rfl, h1, h2, k⟩ := h
    refine ⟨_, pss_one (ps_ret (pe_and (pe_callB call_isi (by rfl) T.b_isinstance boot_isinstance (pa_cons (pv 0) (pa_cons (pgt (by rfl) T.b_int boot_int) pa_nil)))
      (pe_and (pe_not (pe_callB call_isi (by rfl) T.b_isinstance boot_isinstance (pa_cons (pv 0) (pa_cons (pgt (by rfl) T.b_bool boot_bool) pa_nil))))
      (pe_one (pe_chain op_le op_le pe_int (pv 0) (pgi (by rfl) T.c_MOST_VALUE)))))), ?_⟩
    refine ⟨_, rfl, _, _, _, _, true, rfl, .ty _, .base (.int i), by rfl, true, rfl, ?_⟩
    refine iteT ?_
    refine ⟨_, rfl, _, _, _, _, false, rfl, .ty _, .base (.int i), by rfl, false, rfl, true, rfl, ?_⟩
    refine iteT ?_
    refine ⟨_, rfl, 0, i, rfl, rfl, true, by simp [h1], ?_⟩
    refine iteT ?_
    refine ⟨i, 1000000000, rfl, rfl, ?_⟩
    show Q (.bl (decide (i ≤ 1000000000))) H
    rw [decide_eq_true h2]
    exact k
/-! ### is_pair -/
def spIsPair (K : PySem.W.Frag) : Sp := fun vs H Q _ => ∃ (v : V) (p : Str × Int), vs = [v] ∧ PairV K H v p ∧ IsCell p.1 ∧ 0 ≤ p.2 ∧ p.2 ≤ 1000000000 ∧ ∀ H', Ke [] H H' → Q (.bl true) H'
theorem sc_IsPair : FnScope ["thing"] ["thing"] (defScope sIsPair) := ⟨rfl, rfl, rfl, by decide +kernel, rfl, by decide +kernel, by decide +kernel⟩
theorem ok_is_pair (T : Tx K mg) : C8.Cal P w K mg base 2 "is_pair" (spIsPair K) [] := by
  obtain ⟨fd, F⟩ := T.d_is_pair
  have c1 : C8.Cal P w K mg base 1 "is_cell" spIsCell [] := ok_is_cell T
  have c2 : C8.Cal P w K mg base 1 "is_value" spIsValue [] := ok_is_value T
  refine mk_cal F T.g_is_pair sc_IsPair (fun _ _ _ _ _ _ us hl => match us, hl with | [_], _ => rfl) (fun vs H Q E h => ?_) (fun cdv A outer s H vs Q E hr h => ?_)
  · obtain ⟨v, p, rfl, _⟩ := h
    rfl
  · obtain ⟨v, p, rfl, ⟨t, rfl, ht⟩, hc, h1, h2, k⟩ := h
    refine ⟨_, pss_one (ps_ret (pe_and (pe_callB call_isi (by rfl) T.b_isinstance boot_isinstance (pa_cons (pv 0) (pa_cons (pgt (by rfl) T.b_tuple boot_tuple) pa_nil)))
      (pe_and (pe_cmpR op_eq (pe_callB call_len_seq (by rfl) T.b_len PySem.boot_len (pa_cons (pv 0) pa_nil)) (pgi (by rfl) T.c_PAIR) (nomark _))
      (pe_and (C8.pe_c c1 hr (Nat.le_refl _) (by rfl) (pa_cons (pe_ix ix_tup (pv 0) pe_int (fun _ _ => rfl)) pa_nil))
      (pe_one (C8.pe_c c2 hr (Nat.le_refl _) (by rfl) (pa_cons (pe_ix ix_tup (pv 0) pe_int (fun _ _ => rfl)) pa_nil))))))), ?_⟩
    refine ⟨_, rfl, _, _, _, _, true, rfl, .ty _, sqT_ty ht, by rfl, true, rfl, ?_⟩
    refine iteT ?_
    refine ⟨_, rfl, t, _, rfl, .inr ht, rfl, true, rfl, ?_⟩
    refine iteT ?_
    refine ⟨_, rfl, t, _, 0, _, rfl, rfl, ht, rfl, p.1, rfl, hc, fun H1 k1 => ⟨true, rfl, ?_⟩⟩
    refine iteT ?_
    exact ⟨_, rfl, t, _, 1, _, rfl, rfl, k1.sqt Wok.nil ht, rfl, p.2, rfl, h1, h2, k H1 k1⟩
/-! ### has_log_form -/
def spForm (K : PySem.W.Frag) : Sp := fun vs H Q _ => ∃ (v : V) (l : Log), vs = [v] ∧ LogV K H v l ∧ WfLog l ∧ ∀ H', Ke [] H H' → Q (.bl true) H'
theorem sc_Form : FnScope ["thing", "pair", "one", "other"] ["thing"] (defScope sHasLogForm) := ⟨rfl, rfl, rfl, by decide +kernel, rfl, by decide +kernel, by decide +kernel⟩
theorem ok_has_log_form (T : Tx K mg) : C8.Cal P w K mg base 3 "has_log_form" (spForm K) [] := by
  obtain ⟨fd, F⟩ := T.d_has_log_form
  have c1 : C8.Cal P w K mg base 2 "is_pair" (spIsPair K) [] := ok_is_pair T
  refine mk_cal F T.g_has_log_form sc_Form (fun _ _ _ _ _ _ us hl => match us, hl with | [_], _ => rfl) (fun vs H Q E h => ?_) (fun cdv A outer s H vs Q E hr h => ?_)
  · obtain ⟨v, p, rfl, _⟩ := h
    rfl
  · obtain ⟨v, l, rfl, hv, wf, k⟩ := h
    obtain ⟨a, xs, rfl, hq, hp⟩ := hv.sqt
    refine ⟨_, pss_cons (ps_if (PW.pt (pw_or (pt_not (pt_val (pe_callB call_isi (by rfl) T.b_isinstance boot_isinstance (pa_cons (pv 0) (pa_cons (pgt (by rfl) T.b_tuple boot_tuple) pa_nil)))))
        (pw_or1 (pt_not (pt_val (pe_callB (cr_all rfl) (by rfl) T.b_all boot_all (pa_cons (pe_lc (own := [("pair", 1)]) (g := gName 1) (tt := tYes) rfl sc_Form.nd (pi_tup (pv 0))
          (blkOk_by (own := [("pair", 1)]) (N := ["thing", "pair", "one", "other"]) (sc := defScope sHasLogForm) (by decide +kernel)) (fun _ _ _ _ _ => pg_name (i := 1) sc_Form.nd rfl (Or.inl rfl)) (fun _ _ _ _ _ => pts_nil)
          (fun _ _ _ _ _ => C8.pe_c c1 hr (Nat.le_refl _) (by rfl) (pa_cons (pv 1) pa_nil))) pa_nil))))))) (pss_one (ps_ret pe_bl)) pss_nil)
      (pss_one (ps_ret (pe_callB (cr_all rfl) (by rfl) T.b_all boot_all (pa_cons (pe_lc (own := [("one", 2), ("other", 3)]) (g := gTup K 2 (gCons (gName 2) (gCons (gName 3) gNil))) (tt := tYes) rfl sc_Form.nd (RZ.pi_zipA (by rfl) T.b_zip (pa_cons (pv 0) (pa_cons (pe_slice sl_tupN (pv 0) (po_some pe_int) po_none) pa_nil)))
          (blkOk_by (own := [("one", 2), ("other", 3)]) (N := ["thing", "pair", "one", "other"]) (sc := defScope sHasLogForm) (by decide +kernel))
          (fun _ _ _ _ _ => pg_tup rfl (pgs_cons (pg_name (i := 2) sc_Form.nd rfl (Or.inl rfl)) (pgs_cons (pg_name (i := 3) sc_Form.nd rfl (Or.inl rfl)) pgs_nil))) (fun _ _ _ _ _ => pts_nil)
          (fun _ _ _ _ _ => pe_cmpR op_lt_str (pe_ix (ixT K) (pv 2) pe_int (fun _ _ => rfl)) (pe_ix (ixT K) (pv 3) pe_int (fun _ _ => rfl)) (nomark _))) pa_nil)))), ?_⟩
    refine ⟨_, rfl, _, _, _, _, true, rfl, .ty _, sqT_ty hq, by rfl, true, rfl, ?_⟩
    refine iteF ?_
    -- all([is_pair(pair) for pair in thing])
    have hlen : xs.length ≤ 60 := by rw [hp.length]; exact wf.len
    refine ⟨_, rfl, a, rfl, ⟨xs, hq⟩, fun D hD => lc_ac walk_tup (AcT H) ⟨rfl, Ke.new hD⟩ (fun i acc H1 _ _ z => z.2.sqt Wok.nil hq) (fun i x acc H1 H2 hi hd hl z y => ?_) (fun acc H1 hd hl z => ?_)⟩
    · obtain ⟨rfl, e1⟩ := y
      obtain ⟨p, e2, hpr⟩ := Paired.get hp i x e1
      obtain ⟨w1, w2, w3⟩ := wf.ok p (List.mem_of_getElem? e2)
      refine ⟨rfl, yes_ite ?_⟩
      exact ⟨_, rfl, x, p, rfl, z.2.pair Wok.nil hpr, w1, w2, w3, fun H3 k3 => AcT.more hD (k3.same _ _ hd) hl (by omega) z.1 (z.2.trans k3)⟩
    · refine ⟨D, _, rfl, AcT.sq hd z.1, ?_⟩
      rw [allT]
      refine ⟨true, rfl, ?_⟩
      refine iteF ?_
      have k1 := z.2
      -- all([.. for one, other in zip(thing, thing[1:])])
      refine ⟨_, rfl, _, rfl, 1, rfl, a, xs, rfl, k1.sqt Wok.nil hq, fun p H2 k2 hp2 => ?_⟩
      rw [show (some (1 : Int)) = some ((1 : Nat) : Int) from rfl, cut_from] at hp2
      have k12 := k1.trans k2
      refine ⟨a, p, xs, xs.drop 1, rfl, .inr ⟨k12.sqt Wok.nil hq, hp2, fun D2 hD2 => lc_ac (walk_zipT rfl) (AcT H2) ⟨rfl, Ke.new hD2⟩ (fun i acc H3 _ _ z => ⟨(k12.trans z.2).sqt Wok.nil hq, z.2.sqt Wok.nil hp2⟩) (fun i x acc H3 H4 hi hd hl z y => ?_) (fun acc H3 hd hl z => ?_)⟩⟩
      · obtain ⟨T0, x1, x2, rfl, hT, rfl, e1, e2⟩ := y
        replace e2 : xs[i + 1]? = some x2 := by rw [Nat.add_comm, ← List.getElem?_drop]; exact e2
        obtain ⟨p1, e3, t1, rfl, s1⟩ := Paired.get hp i x1 e1
        obtain ⟨p2, e4, t2, rfl, s2⟩ := Paired.get hp (i + 1) x2 e2
        have k4 : Ke [] H2 (upd H3 T0 (.tup [.ref t1, .ref t2])) := z.2.trans (Ke.new hT)
        have k5 := k12.trans k4
        refine ⟨T0, _, rfl, SqT.of upd_same, rfl, _, _, rfl, _, _, rfl, rfl, rfl, ?_⟩
        refine yes_ite ?_
        refine ⟨_, rfl, t1, _, 0, _, rfl, rfl, k5.sqt Wok.nil s1, rfl, _, rfl, t2, _, 0, _, rfl, rfl, k5.sqt Wok.nil s2, rfl, p1.1, p2.1, rfl, rfl, ?_⟩
        rw [decide_eq_true (show p1.1.cps.toList < p2.1.cps.toList from wf.step e3 e4)]
        exact AcT.more hD2 (by rw [upd_ne (ne_of_none hd hT)]; exact hd) hl (by simp at hi; omega) z.1 k4
      · refine ⟨D2, _, rfl, AcT.sq hd z.1, ?_⟩
        rw [allT]
        exact k _ (k12.trans z.2)

end
end RO

/-! text M1 -/
set_option Elab.async false
set_option linter.all false
set_option maxHeartbeats 1000000
/-! Plain: groups of logs, what splits them, what is stuck. -/
namespace RO
open PySem
def vOf : Log → Str → Option Int
  | [], _ => none
  | p :: l, c => if p.1 = c then some p.2 else vOf l c
theorem vOf_mem : ∀ {l : Log} {c : Str} {v : Int}, vOf l c = some v → (c, v) ∈ l
  | [], _, _, h => by simp [vOf] at h
  | p :: l, c, v, h => by
    unfold vOf at h
    by_cases e : p.1 = c
    · rw [if_pos e] at h
      have e2 : p.2 = v := Option.some.inj h
      have : p = (c, v) := by rw [← e, ← e2]
      rw [this]
      exact List.mem_cons_self ..
    · rw [if_neg e] at h
      exact List.mem_cons_of_mem _ (vOf_mem h)
theorem vOf_some : ∀ {l : Log} {c : Str} {v : Int}, (c, v) ∈ l → ∃ u, vOf l c = some u
  | [], _, _, h => by simp at h
  | p :: l, c, v, h => by
    unfold vOf
    by_cases e : p.1 = c
    · exact ⟨p.2, if_pos e⟩
    · rw [if_neg e]
      rcases List.mem_cons.mp h with h | h
      · exact absurd (by rw [← h]) e
      · exact vOf_some h
def Shr (g : List Log) (c : Str) : Prop := ∀ l ∈ g, ∃ v, vOf l c = some v
def Splits (c : Str) (g : List Log) : Prop := Shr g c ∧ ∃ l ∈ g, ∃ m ∈ g, vOf l c ≠ vOf m c
def Stk (g : List Log) : Prop := (∃ l ∈ g, ∃ m ∈ g, l ≠ m) ∧ ∀ c, ¬ Splits c g
def Ok (g : List Log) : Prop := ∀ h : List Log, (∀ x ∈ h, x ∈ g) → ¬ Stk h
theorem Ok.mono {g h : List Log} (o : Ok g) (s : ∀ x ∈ h, x ∈ g) : Ok h := fun k t => o k fun x hx => s x (t x hx)
theorem Ok.perm {g h : List Log} (o : Ok g) (s : h.Perm g) : Ok h := o.mono fun x hx => s.mem_iff.mp hx
theorem ok_same {g : List Log} (h : ∀ x ∈ g, ∀ y ∈ g, x = y) : Ok g := fun k t ⟨⟨l, hl, m, hm, n⟩, _⟩ => n (h l (t l hl) m (t m hm))
theorem ok_nil : Ok [] := ok_same fun _ h => nomatch h
theorem ok_one {l : Log} : Ok [l] := ok_same fun x hx y hy => by rw [List.mem_singleton.mp hx, List.mem_singleton.mp hy]
/-- the logs with that value there -/
def part (g : List Log) (c : Str) (v : Int) : List Log := g.filter fun l => decide (vOf l c = some v)
theorem mem_part {g : List Log} {c : Str} {v : Int} {l : Log} : l ∈ part g c v ↔ l ∈ g ∧ vOf l c = some v := by
  unfold part
  rw [List.mem_filter, decide_eq_true_eq]
/-- a stuck group lies within one part -/
theorem stk_part {g h : List Log} {c : Str} (s : Shr g c) (k : Stk h) (t : ∀ x ∈ h, x ∈ g) : ∃ v, (∃ l ∈ g, vOf l c = some v) ∧ ∀ x ∈ h, x ∈ part g c v := by
  obtain ⟨⟨l, hl, _⟩, n⟩ := k
  obtain ⟨v, hv⟩ := s l (t l hl)
  refine ⟨v, ⟨l, t l hl, hv⟩, fun x hx => mem_part.mpr ⟨t x hx, ?_⟩⟩
  rw [← hv]
  exact Classical.byContradiction fun z => n c ⟨fun y hy => s y (t y hy), x, hx, l, hl, z⟩
theorem ok_parts {g : List Log} {c : Str} (s : Shr g c) (h : ∀ v, (∃ l ∈ g, vOf l c = some v) → Ok (part g c v)) : Ok g := fun k t z => by
  obtain ⟨v, hv, q⟩ := stk_part s z t
  exact h v hv k q z
theorem Ok.splits {g : List Log} (o : Ok g) {l m : Log} (hl : l ∈ g) (hm : m ∈ g) (n : l ≠ m) : ∃ c, Splits c g := Classical.byContradiction fun z => o g (fun _ h => h) ⟨⟨l, hl, m, hm, n⟩, fun c s => z ⟨c, s⟩⟩
/-- what a new log made stuck holds that log -/
theorem stk_new {g h : List Log} {l : Log} (o : Ok g) (k : Stk h) (t : ∀ x ∈ h, x ∈ g ∨ x = l) : l ∈ h := Classical.byContradiction fun z => o h (fun x hx => by
  rcases t x hx with e | e
  · exact e
  · exact absurd (e ▸ hx) z) k
theorem stk_not {g h : List Log} (k : Stk h) (t : ∀ x ∈ h, x ∈ g) : ¬ Ok g := fun o => o h t k
theorem nodup_two {g : List Log} (n : g.Nodup) (h : 2 ≤ g.length) : ∃ l ∈ g, ∃ m ∈ g, l ≠ m := by
  match g, n, h with
  | a :: b :: r, n, _ => exact ⟨a, by simp, b, by simp, fun e => by simp [e] at n⟩
theorem len_two {g : List Log} (h : ∃ l ∈ g, ∃ m ∈ g, l ≠ m) : 2 ≤ g.length := by
  obtain ⟨l, hl, m, hm, n⟩ := h
  match g with
  | [] => simp at hl
  | [a] => exact absurd ((List.mem_singleton.mp hl).trans (List.mem_singleton.mp hm).symm) n
  | a :: b :: r => simp
theorem len_sub {α : Type} [DecidableEq α] : ∀ {h g : List α}, h.Nodup → (∀ x ∈ h, x ∈ g) → h.length ≤ g.length
  | [], _, _, _ => Nat.zero_le _
  | a :: h, g, n, s => by
    have ha : a ∈ g := s a (List.mem_cons_self ..)
    have n2 := List.nodup_cons.mp n
    have := len_sub (h := h) (g := g.erase a) n2.2 fun x hx => (List.mem_erase_of_ne (fun e : x = a => n2.1 (by rw [← e]; exact hx))).mpr (s x (List.mem_cons_of_mem _ hx))
    rw [List.length_erase_of_mem ha] at this
    have := List.length_pos_of_mem ha
    simp only [List.length_cons]
    omega
/-- B is made of logs of g, each once -/
def Within (B g : List Log) : Prop := B.Nodup ∧ ∀ x ∈ B, x ∈ g
theorem Within.refl {g : List Log} (n : g.Nodup) : Within g g := ⟨n, fun _ h => h⟩
theorem Within.trans {a b c : List Log} (h : Within a b) (k : Within b c) : Within a c := ⟨h.1, fun x hx => k.2 x (h.2 x hx)⟩
theorem Within.len {a b : List Log} (h : Within a b) : a.length ≤ b.length := len_sub h.1 h.2
theorem Within.sub {a b : List Log} (s : a.Sublist b) (n : b.Nodup) : Within a b := ⟨s.nodup n, fun _ h => s.subset h⟩
theorem part_within {g : List Log} {c : Str} {v : Int} (n : g.Nodup) : Within (part g c v) g := Within.sub List.filter_sublist n
/-! ### parts -/
structure PartsOf (g : List Log) (c : Str) (qs : List (Int × List Log)) : Prop where
  keys : (qs.map (·.1)).Nodup
  is : ∀ q ∈ qs, q.2 = part g c q.1 ∧ q.2 ≠ []
  all : ∀ l ∈ g, ∀ v, vOf l c = some v → ∃ q ∈ qs, q.1 = v
theorem parts_nil {c : Str} : PartsOf [] c [] := ⟨by simp, (fun _ h => nomatch h), (fun _ h => nomatch h)⟩
/-- one log more -/
def addP : List (Int × List Log) → Int → Log → List (Int × List Log)
  | [], v, l => [(v, [l])]
  | q :: qs, v, l => if q.1 = v then (q.1, q.2 ++ [l]) :: qs else q :: addP qs v l
theorem addP_keys : ∀ (qs : List (Int × List Log)) (v : Int) (l : Log), (addP qs v l).map (·.1) = if v ∈ qs.map (·.1) then qs.map (·.1) else qs.map (·.1) ++ [v]
  | [], v, l => by simp [addP]
  | q :: qs, v, l => by
    have ih := addP_keys qs v l
    unfold addP
    by_cases e : q.1 = v
    · simp [e]
    · rw [if_neg e]
      simp only [List.map_cons, ih, List.mem_cons]
      by_cases h : v ∈ qs.map (·.1)
      · rw [if_pos h, if_pos (Or.inr h)]
      · rw [if_neg h, if_neg (fun z => z.elim (fun z => e z.symm) h)]
        rfl
theorem addP_mem : ∀ {qs : List (Int × List Log)} {v : Int} {l : Log}, (qs.map (·.1)).Nodup → ∀ q ∈ addP qs v l, (q.1 ≠ v ∧ q ∈ qs) ∨ (q.1 = v ∧ ((∃ r ∈ qs, r.1 = v ∧ q.2 = r.2 ++ [l]) ∨ ((∀ r ∈ qs, r.1 ≠ v) ∧ q.2 = [l])))
  | [], v, l, _, q, h => by
    simp only [addP, List.mem_singleton] at h
    exact Or.inr ⟨by rw [h], Or.inr ⟨(fun _ z => nomatch z), by rw [h]⟩⟩
  | p :: qs, v, l, n, q, h => by
    have n2 := List.nodup_cons.mp n
    unfold addP at h
    by_cases e : p.1 = v
    · rw [if_pos e] at h
      rcases List.mem_cons.mp h with h | h
      · exact Or.inr ⟨by rw [h]; exact e, Or.inl ⟨p, List.mem_cons_self .., e, by rw [h]⟩⟩
      · exact Or.inl ⟨fun z => n2.1 (by show p.1 ∈ _; rw [e, ← z]; exact List.mem_map_of_mem h), List.mem_cons_of_mem _ h⟩
    · rw [if_neg e] at h
      rcases List.mem_cons.mp h with h | h
      · exact Or.inl ⟨by rw [h]; exact e, by rw [h]; exact List.mem_cons_self ..⟩
      · rcases addP_mem n2.2 q h with ⟨a, b⟩ | ⟨a, ⟨r, b, c, d⟩ | ⟨b, c⟩⟩
        · exact Or.inl ⟨a, List.mem_cons_of_mem _ b⟩
        · exact Or.inr ⟨a, Or.inl ⟨r, List.mem_cons_of_mem _ b, c, d⟩⟩
        · exact Or.inr ⟨a, Or.inr ⟨fun r hr => (List.mem_cons.mp hr).elim (fun z => by rw [z]; exact e) (b r), c⟩⟩
theorem part_app {g : List Log} {c : Str} {v : Int} {l : Log} : part (g ++ [l]) c v = part g c v ++ if vOf l c = some v then [l] else [] := by
  unfold part
  rw [List.filter_append]
  by_cases h : vOf l c = some v <;> simp [h]
theorem PartsOf.add {g : List Log} {c : Str} {qs : List (Int × List Log)} (P : PartsOf g c qs) {l : Log} {v : Int} (h : vOf l c = some v) : PartsOf (g ++ [l]) c (addP qs v l) := by
  refine ⟨?_, fun q hq => ?_, fun m hm u hu => ?_⟩
  · rw [addP_keys]
    split
    · exact P.keys
    · rename_i z
      exact List.nodup_append.mpr ⟨P.keys, by simp, fun a ha b hb => by rw [List.mem_singleton.mp hb]; exact fun e => z (e ▸ ha)⟩
  · rcases addP_mem P.keys q hq with ⟨a, b⟩ | ⟨a, ⟨r, b, d, e⟩ | ⟨b, d⟩⟩
    · obtain ⟨e1, e2⟩ := P.is q b
      refine ⟨?_, e2⟩
      rw [part_app, if_neg (by rw [h]; exact fun z => a (Option.some.inj z).symm), List.append_nil]
      exact e1
    · refine ⟨?_, by rw [e]; simp⟩
      rw [part_app, a, if_pos h, e, (P.is r b).1, d]
    · refine ⟨?_, by rw [d]; simp⟩
      rw [part_app, a, if_pos h, d]
      have : part g c v = [] := by
        rw [List.eq_nil_iff_forall_not_mem]
        intro x hx
        obtain ⟨x1, x2⟩ := mem_part.mp hx
        obtain ⟨q', q1, q2⟩ := P.all x x1 v x2
        exact b q' q1 q2
      rw [this, List.nil_append]
  · have key : u ∈ (addP qs v l).map (·.1) := by
      rw [addP_keys]
      rcases List.mem_append.mp hm with hm | hm
      · obtain ⟨q, q1, q2⟩ := P.all m hm u hu
        have : u ∈ qs.map (·.1) := q2 ▸ List.mem_map_of_mem q1
        split
        · exact this
        · exact List.mem_append_left _ this
      · rw [List.mem_singleton.mp hm, h] at hu
        cases Option.some.inj hu
        split
        · assumption
        · simp
    obtain ⟨q, q1, q2⟩ := List.mem_map.mp key
    exact ⟨q, q1, q2⟩
theorem PartsOf.perm {g : List Log} {c : Str} {qs rs : List (Int × List Log)} (P : PartsOf g c qs) (h : rs.Perm qs) : PartsOf g c rs :=
  ⟨(h.map _).nodup_iff.mpr P.keys, fun q hq => P.is q (h.mem_iff.mp hq), fun l hl v hv => let ⟨q, a, b⟩ := P.all l hl v hv; ⟨q, h.mem_iff.mpr a, b⟩⟩
/-- no cell that splits has one value alone -/
theorem PartsOf.one {g : List Log} {c : Str} {qs : List (Int × List Log)} (P : PartsOf g c qs) (s : Shr g c) (h0 : g ≠ []) (n : ¬ Splits c g) : qs.length = 1 := by
  obtain ⟨l, hl⟩ := List.exists_mem_of_ne_nil g h0
  obtain ⟨v, hv⟩ := s l hl
  have same : ∀ q ∈ qs, q.1 = v := by
    intro q hq
    obtain ⟨e1, e2⟩ := P.is q hq
    obtain ⟨m, hm⟩ := List.exists_mem_of_ne_nil _ e2
    rw [e1] at hm
    obtain ⟨m1, m2⟩ := mem_part.mp hm
    refine Classical.byContradiction fun z => n ⟨s, m, m1, l, hl, ?_⟩
    rw [m2, hv]
    exact fun e => z (Option.some.inj e)
  obtain ⟨q0, hq0, _⟩ := P.all l hl v hv
  have k := P.keys
  match qs, same, hq0, k with
  | [a], _, _, _ => rfl
  | a :: b :: r, same, _, k =>
    have e1 := same a (by simp)
    have e2 := same b (by simp)
    simp [e1, e2] at k
theorem PartsOf.two {g : List Log} {c : Str} {qs : List (Int × List Log)} (P : PartsOf g c qs) (n : Splits c g) : 2 ≤ qs.length := by
  obtain ⟨s, l, hl, m, hm, z⟩ := n
  obtain ⟨v, hv⟩ := s l hl
  obtain ⟨u, hu⟩ := s m hm
  obtain ⟨q, q1, q2⟩ := P.all l hl v hv
  obtain ⟨r, r1, r2⟩ := P.all m hm u hu
  match qs with
  | [] => simp at q1
  | [a] =>
    rw [List.mem_singleton] at q1 r1
    rw [hv, hu, ← q2, ← r2, q1, r1] at z
    exact absurd rfl z
  | a :: b :: r => simp
theorem filter_sum {α : Type} (p q : α → Bool) (d : ∀ x, p x = true → q x = true → False) : ∀ g : List α, (g.filter p).length + (g.filter q).length ≤ g.length
  | [] => by simp
  | a :: g => by
    have ih := filter_sum p q d g
    by_cases h1 : p a = true <;> by_cases h2 : q a = true
    · exact (d a h1 h2).elim
    all_goals simp [h1, h2]; omega
/-- the parts together are no more than the group -/
theorem parts_sum {c : Str} : ∀ (qs : List (Int × List Log)) (g : List Log), (qs.map (·.1)).Nodup → (∀ q ∈ qs, q.2 = part g c q.1) → (qs.map fun q => q.2.length).sum ≤ g.length
  | [], _, _, _ => by simp
  | q :: qs, g, n, h => by
    have n2 := List.nodup_cons.mp n
    let g' := g.filter fun l => !decide (vOf l c = some q.1)
    have ih := parts_sum (c := c) qs g' n2.2 fun r hr => by
      rw [h r (List.mem_cons_of_mem _ hr)]
      unfold part
      show _ = List.filter _ (List.filter _ g)
      rw [List.filter_filter]
      congr 1
      funext l
      by_cases e : vOf l c = some r.1
      · have : ¬ r.1 = q.1 := fun z => n2.1 (by show q.1 ∈ _; rw [← z]; exact List.mem_map_of_mem hr)
        simp [e, this]
      · simp [e]
    have e1 : q.2.length = (part g c q.1).length := by rw [h q (List.mem_cons_self ..)]
    have := filter_sum (fun l : Log => decide (vOf l c = some q.1)) (fun l : Log => !decide (vOf l c = some q.1)) (fun x a b => by simp_all) g
    simp only [List.map_cons, List.sum_cons]
    have e2 : (part g c q.1).length = (g.filter fun l : Log => decide (vOf l c = some q.1)).length := rfl
    have e3 : g'.length = (g.filter fun l : Log => !decide (vOf l c = some q.1)).length := rfl
    omega
theorem PartsOf.len {g : List Log} {c : Str} {qs : List (Int × List Log)} (P : PartsOf g c qs) : qs.length ≤ g.length := by
  have h := parts_sum qs g P.keys fun q hq => (P.is q hq).1
  have k : ∀ rs : List (Int × List Log), (∀ q ∈ rs, q.2 ≠ []) → rs.length ≤ (rs.map fun q => q.2.length).sum := by
    intro rs
    induction rs with
    | nil => intro _; simp
    | cons r rs ih =>
      intro h
      have := ih fun q hq => h q (List.mem_cons_of_mem _ hq)
      have : 0 < r.2.length := List.length_pos_iff.mpr (h r (List.mem_cons_self ..))
      simp only [List.length_cons, List.map_cons, List.sum_cons]
      omega
  have := k qs fun q hq => (P.is q hq).2
  omega
end RO

/-! text P3 -/
set_option Elab.async false
set_option linter.all false
set_option maxRecDepth 100000
set_option maxHeartbeats 1000000
/-! Sorting of logs, groups, pairs; dicts of logs; comprehensions by pairs. -/
namespace RO
open PySem PySem.Spec PyProof.Rows L2
theorem paired_list {α β : Type} {F : α → β → Prop} : ∀ {xs : List α} {ys : List β}, Paired F xs ys → ∃ cs : List (α × β), cs.map (·.1) = xs ∧ cs.map (·.2) = ys ∧ ∀ c ∈ cs, F c.1 c.2
  | _, _, .nil => ⟨[], rfl, rfl, (fun _ h => nomatch h)⟩
  | _, _, .cons (a := a) (b := b) h t => by
    obtain ⟨cs, e1, e2, k⟩ := paired_list t
    exact ⟨(a, b) :: cs, by rw [List.map_cons, e1], by rw [List.map_cons, e2], fun c hc => (List.mem_cons.mp hc).elim (fun z => by rw [z]; exact h) (k c)⟩
theorem paired_of {α β : Type} {F : α → β → Prop} : ∀ (cs : List (α × β)), (∀ c ∈ cs, F c.1 c.2) → Paired F (cs.map (·.1)) (cs.map (·.2))
  | [], _ => .nil
  | c :: cs, h => .cons (h c (List.mem_cons_self ..)) (paired_of cs fun d hd => h d (List.mem_cons_of_mem _ hd))
def rSortX {α : Type} (K : PySem.W.Frag) (enc : α → PyData) (F : Hp → V → α → Prop) : List V → Hp → VK → Prop := fun vs H Q => ∃ a xs ys, vs = [.ref a] ∧ (SqL K H a xs ∨ SqT K H a xs) ∧ Paired (F H) xs ys ∧
  ∀ p xs' ys', H p = none → Paired (F H) xs' ys' → ys'.Perm ys → ys'.Pairwise (fun y z => PySem.W.dataLt (enc z) (enc y) = false) → Q (.ref p) (upd H p (.lst xs'))
theorem cr_sortedX {X : Cx} {k : Nat} (hr : Room k X.A) {α : Type} {enc : α → PyData} {F : Hp → V → α → Prop} (hF : ∀ H v y, F H v y → Dp X.K H v (enc y)) (ht : ∀ y, (∃ xs, enc y = .tuple xs) ∧ (enc y).depth ≤ 100) (al : ∀ y z, PySem.W.alike (enc y) (enc z) = true) :
    CallR X (.builtin "sorted") (rSortX X.K enc F) := by
  intro pins s σ H xs us Q I r h
  obtain ⟨a, vs, ys, rfl, hq, hp, q⟩ := h
  obtain ⟨cs, rfl, rfl, hc⟩ := paired_list hp
  refine cr_sortedD hr pins s σ H _ us Q I r ?_
  have e0 : (cs.map fun c => (c.1, enc c.2)).map (·.1) = cs.map (·.1) := by rw [List.map_map]; rfl
  refine ⟨a, cs.map fun c => (c.1, enc c.2), rfl, by rw [e0]; exact hq, fun b hb => ?_, fun b hb c hc => ?_, fun p hp0 => ?_⟩
  · obtain ⟨c, h1, rfl⟩ := List.mem_map.mp hb
    exact ⟨hF _ _ _ (hc c h1), ht c.2⟩
  · obtain ⟨b', h1, rfl⟩ := List.mem_map.mp hb
    obtain ⟨c', h2, rfl⟩ := List.mem_map.mp hc
    exact al _ _
  · have em := List.map_mergeSort (l := cs) (r := PySem.W.dataLe false fun c : V × α => enc c.2) (s := PySem.W.dataLe false fun b : V × PyData => b.2) (f := fun c => (c.1, enc c.2)) (fun _ _ _ _ => rfl)
    rw [← em, List.map_map]
    have hperm : (cs.mergeSort (PySem.W.dataLe false fun c : V × α => enc c.2)).Perm cs := List.mergeSort_perm ..
    have tl : PySem.W.TotalLe (PySem.W.dataLe false fun c : V × α => enc c.2) := PySem.W.sortLe_total _ _ _
    have hs := List.pairwise_mergeSort tl.trans (fun a b => by rw [Bool.or_eq_true]; exact tl.total a b) cs
    show Q (.ref p) (upd H p (.lst ((cs.mergeSort (PySem.W.dataLe false fun c : V × α => enc c.2)).map (·.1))))
    refine q p _ ((cs.mergeSort (PySem.W.dataLe false fun c : V × α => enc c.2)).map (fun c => c.2)) hp0 (paired_of _ fun c h1 => hc c (hperm.mem_iff.mp h1)) (hperm.map _) ?_
    rw [List.pairwise_map]
    refine hs.imp fun {y z} e => ?_
    have e' : (!PySem.W.dataLt (enc z.2) (enc y.2)) = true := e
    rwa [Bool.not_eq_true'] at e'
/-- logs, groups, pairs -/
theorem cr_sortedG {X : Cx} {k : Nat} (hr : Room k X.A) : CallR X (.builtin "sorted") (rSortX X.K eL (LogV X.K)) :=
  cr_sortedX hr (fun _ _ _ h => h.dp) (fun y => ⟨⟨_, rfl⟩, by have := depth_eL y; omega⟩) alike_eL
def eG (g : List Log) : PyData := .tuple (g.map eL)
theorem depth_eG (g : List Log) : (eG g).depth ≤ 3 := by
  have h := depthAll_le eL 2 depth_eL g
  simp only [eG, PyData.depth]
  omega
theorem cr_sortedB {X : Cx} {k : Nat} (hr : Room k X.A) : CallR X (.builtin "sorted") (rSortX X.K eG (GrpT X.K)) :=
  cr_sortedX hr (fun _ _ _ h => h.dp) (fun y => ⟨⟨_, rfl⟩, by have := depth_eG y; omega⟩) alike_eG
theorem cr_sortedPr {X : Cx} {k : Nat} (hr : Room k X.A) : CallR X (.builtin "sorted") (rSortX X.K eP (PairV X.K)) :=
  cr_sortedX hr (fun _ _ _ h => h.dp) (fun y => ⟨⟨_, rfl⟩, by have := depth_eP y; omega⟩) alike_eP
theorem str_ext {a b : Str} (h : a.cps.toList = b.cps.toList) : a = b := by
  cases a
  cases b
  simp only [Str.mk.injEq]
  exact Array.toList_inj.mp h
/-- pairs in order, with different cells, ascend -/
theorem asc_of {l : Log} (h : l.Pairwise (fun y z => PySem.W.dataLt (eP z) (eP y) = false)) (n : (l.map (·.1)).Nodup) : l.Pairwise fun p q => cLt p.1 q.1 := by
  rw [List.nodup_iff_pairwise_ne, List.pairwise_map] at n
  refine (h.and n).imp fun {y z} e => ?_
  obtain ⟨e1, e2⟩ := e
  unfold eP at e1
  rw [PySem.W.dataLt_pair (by simp [PySem.W.alike]) (by simp [PySem.W.alike]), if_neg (by simp only [PyData.eqv, beq_iff_eq]; exact fun z => e2 z.symm), PySem.W.dataLt_str, decide_eq_false_iff_not] at e1
  unfold cLt
  have h1 : y.1.cps.toList ≤ z.1.cps.toList := List.not_lt.mp e1
  rcases Decidable.em (y.1.cps.toList < z.1.cps.toList) with h2 | h2
  · exact h2
  · exact absurd (str_ext (List.le_antisymm h1 (List.not_lt.mp h2))) e2
theorem WfLog.nodup {l : Log} (w : WfLog l) : (l.map (·.1)).Nodup := by
  rw [List.nodup_iff_pairwise_ne, List.pairwise_map]
  refine w.asc.imp fun {p q} h e => ?_
  unfold cLt at h
  rw [e] at h
  exact List.lt_irrefl _ h
/-! ### dict(log) -/
def kvL (l : Log) : List (Key × V) := l.map fun p => (.inr p.1, .int p.2)
def DctL (H : Hp) (d : Addr) (l : Log) : Prop := ∃ kvs, H d = some (.dK kvs) ∧ ∀ c, valV kvs (.inr c) = (vOf l c).map V.int
theorem merge_val : ∀ (more kvs : List (Key × V)) (k : Key), (more.map (·.1)).Nodup → valV (mergeK kvs more) k = (valV more k).or (valV kvs k)
  | [], kvs, k, _ => by simp [mergeK, valV]
  | p :: r, kvs, k, n => by
    have n2 := List.nodup_cons.mp n
    have ih := merge_val r (putK kvs p.1 p.2) k n2.2
    have e : mergeK kvs (p :: r) = mergeK (putK kvs p.1 p.2) r := rfl
    rw [e, ih, valV_put]
    by_cases h : k = p.1
    · subst h
      have : valV r p.1 = none := by
        cases q : valV r p.1 with
        | none => rfl
        | some u => exact absurd (valV_in q) n2.1
      rw [this, if_pos rfl, valV_pos rfl]
      rfl
    · rw [if_neg h, valV_neg (fun z => h z.symm)]
theorem val_kvL : ∀ (l : Log) (c : Str), valV (kvL l) (.inr c) = (vOf l c).map V.int
  | [], _ => rfl
  | p :: l, c => by
    unfold vOf
    by_cases h : p.1 = c
    · rw [if_pos h]
      exact valV_pos (p := (Sum.inr p.1, V.int p.2)) (congrArg Sum.inr h)
    · rw [if_neg h, ← val_kvL l c]
      exact valV_neg (p := (Sum.inr p.1, V.int p.2)) fun z => h (Sum.inr.inj z)
theorem dct_of {H : Hp} {p : Addr} {l : Log} (n : (l.map (·.1)).Nodup) : DctL (upd H p (.dK (mergeK [] (kvL l)))) p l := by
  refine ⟨_, upd_same, fun c => ?_⟩
  rw [merge_val _ _ _ (by
    have e : (kvL l).map (·.1) = (l.map (·.1)).map Sum.inr := by unfold kvL; rw [List.map_map, List.map_map]; rfl
    rw [e, List.nodup_iff_pairwise_ne, List.pairwise_map]
    rw [List.nodup_iff_pairwise_ne] at n
    exact n.imp fun {x y} h z => h (Sum.inr.inj z)), val_kvL]
  cases vOf l c <;> rfl
theorem refs_of {K : PySem.W.Frag} {H : Hp} : ∀ {xs : List V} {l : Log}, Paired (PairV K H) xs l → ∃ ps : List Addr, xs = ps.map V.ref ∧ Paired (fun p (kv : Key × V) => SqT K H p [kV kv.1, kv.2]) ps (kvL l)
  | _, _, .nil => ⟨[], rfl, .nil⟩
  | _, _, .cons ⟨t, e, h⟩ r => by
    obtain ⟨ps, e2, q⟩ := refs_of r
    exact ⟨t :: ps, by rw [e, e2]; rfl, .cons h q⟩
def rDictLog (K : PySem.W.Frag) : List V → Hp → VK → Prop := fun vs H Q => ∃ v l, vs = [v] ∧ LogV K H v l ∧ (l.map (·.1)).Nodup ∧ ∀ p H', H p = none → Ke [] H H' → DctL H' p l → Q (.ref p) H'
theorem call_dictLog {X : Cx} (hc : X.calm = true) : CallR X (.type "dict") (rDictLog X.K) := by
  intro pins s σ H xs us Q I r h
  obtain ⟨v, l, rfl, ⟨a, o, ys, rfl, ho, ha, hp⟩, n, q⟩ := h
  obtain ⟨ps, e, hq⟩ := refs_of hp
  refine call_dictT hc pins s σ H _ us Q I r ⟨a, o, ps, kvL l, rfl, ho, by rw [ha, e], hq, fun p hp0 => q p _ hp0 (Ke.new hp0) (dct_of n)⟩
def rDictLL (K : PySem.W.Frag) : List V → Hp → VK → Prop := fun vs H Q => ∃ a xs l, vs = [.ref a] ∧ SqL K H a xs ∧ Paired (PairV K H) xs l ∧ (l.map (·.1)).Nodup ∧ ∀ p H', H p = none → Ke [] H H' → DctL H' p l → Q (.ref p) H'
theorem call_dictLL {X : Cx} (hc : X.calm = true) : CallR X (.type "dict") (rDictLL X.K) := by
  intro pins s σ H xs us Q I r h
  obtain ⟨a, ys, l, rfl, ha, hp, n, q⟩ := h
  obtain ⟨ps, e, hq⟩ := refs_of hp
  refine call_dictP hc pins s σ H _ us Q I r ⟨a, ps, kvL l, rfl, by rw [← e]; exact ha, hq, fun p hp0 => q p _ hp0 (Ke.new hp0) (dct_of n)⟩
theorem DctL.get {H : Hp} {d : Addr} {l : Log} (h : DctL H d l) (c : Str) : DGet H d (.str c) ((vOf l c).map V.int) := by
  obtain ⟨kvs, e, k⟩ := h
  rw [← k c]
  exact DGet.k (k := .inr c) e
/-! ### what a list that grows does not touch -/
def Stab {α : Type} (F : Hp → V → α → Prop) : Prop := ∀ (D : Addr) (acc : List V) (H H' : Hp) (v : V) (y : α), H D = some (.lst acc) → Ke [D] H H' → F H v y → F H' v y
theorem stab_log {K : PySem.W.Frag} : Stab (LogV K) := fun D acc H H' v y h k => k.log (Wok.one (mut_lst h))
theorem stab_grp {K : PySem.W.Frag} : Stab (GrpT K) := fun D acc H H' v y h k => k.grp (Wok.one (mut_lst h))
theorem stab_pair {K : PySem.W.Frag} : Stab (PairV K) := fun D acc H H' v y h k => k.pair (Wok.one (mut_lst h))
def DctV (H : Hp) (v : V) (l : Log) : Prop := ∃ d, v = .ref d ∧ DctL H d l
theorem stab_dct : Stab DctV := fun D acc H H' v y h k ⟨d, e, kvs, a, b⟩ => ⟨d, e, kvs, k d _ a (by rw [List.mem_singleton]; rintro rfl; rw [h] at a; cases a), b⟩
/-- a comprehension whose items stand for those of ys -/
abbrev AcP {α : Type} (F : Hp → V → α → Prop) (ys : List α) (H0 : Hp) : Nat → List V → Hp → Prop := fun i acc H1 => Paired (F H1) acc (ys.take i) ∧ Ke [] H0 H1
theorem take_snoc {α : Type} {ys : List α} {i : Nat} {y : α} (h : ys[i]? = some y) : ys.take (i + 1) = ys.take i ++ [y] := by rw [List.take_succ, h]; rfl
theorem AcP.zero {α : Type} {F : Hp → V → α → Prop} {ys : List α} {H0 : Hp} {D : Addr} (hD : H0 D = none) : AcP F ys H0 0 [] (upd H0 D (.lst [])) := ⟨by rw [List.take_zero]; exact .nil, Ke.new hD⟩
theorem AcP.more {α : Type} {F : Hp → V → α → Prop} {ys : List α} (st : Stab F) {D : Addr} {H0 H1 H4 : Hp} {i : Nat} {acc : List V} {v : V} {y : α} (hD : H0 D = none) (hd : H1 D = some (.lst acc)) (hl : acc.length ≤ i) (hz : i < 1000000) (a : AcP F ys H0 i acc H1) (k : Ke [] H1 H4)
    (hy : ys[i]? = some y) (hv : F H4 v y) : ∃ acc, H4 D = some (.lst acc) ∧ acc.length < sizeLine ∧ L2.Acc D (AcP F ys H0) (i + 1) (upd H4 D (.lst (acc ++ [v]))) := by
  have hd4 : H4 D = some (.lst acc) := k.same _ _ hd
  refine L2.Acc.more hd4 hl hz ⟨?_, (a.2.trans k).own hD⟩
  rw [take_snoc hy]
  exact Paired.app (Paired.mapP a.1 fun v y h => st D acc _ _ _ _ hd (k.any.trans (Ke.on (List.mem_singleton.mpr rfl))) h) (.cons (st D acc _ _ _ _ hd4 (Ke.on (List.mem_singleton.mpr rfl)) hv) .nil)
theorem AcP.fin {α : Type} {F : Hp → V → α → Prop} {ys : List α} {H0 H1 : Hp} {n : Nat} {acc : List V} (a : AcP F ys H0 n acc H1) (h : ys.length ≤ n) : Paired (F H1) acc ys := by
  have := a.1
  rwa [List.take_of_length_le h] at this
end RO

/-! text D3 -/
set_option Elab.async false
set_option linter.all false
set_option maxRecDepth 100000
set_option maxHeartbeats 1000000
namespace RO
open PySem PySem.Spec PyProof.Rows L2
section
variable {P : Program} {w : World} {K : PySem.W.Frag} {mg : Str → Option Value} {base : Heap}
/-! ### is_log -/
theorem sc_IsLog : FnScope ["thing"] ["thing"] (defScope sIsLog) := ⟨rfl, rfl, rfl, by decide +kernel, rfl, by decide +kernel, by decide +kernel⟩
theorem ok_is_log (T : Tx K mg) : C8.Cal P w K mg base 4 "is_log" (spForm K) [] := by
  obtain ⟨fd, F⟩ := T.d_is_log
  have c1 : C8.Cal P w K mg base 3 "has_log_form" (spForm K) [] := ok_has_log_form T
  refine mk_cal F T.g_is_log sc_IsLog (fun _ _ _ _ _ _ us hl => match us, hl with | [_], _ => rfl) (fun vs H Q E h => ?_) (fun cdv A outer s H vs Q E hr h => ?_)
  · obtain ⟨v, p, rfl, _⟩ := h
    rfl
  · obtain ⟨v, l, rfl, hv, wf, k⟩ := h
    refine ⟨_, pss_one (ps_ret (pe_and (C8.pe_c c1 hr (Nat.le_refl _) (by rfl) (pa_cons (pv 0) pa_nil))
      (pe_one (pe_cmpR op_le (pe_callB call_len_seq (by rfl) T.b_len PySem.boot_len (pa_cons (pv 0) pa_nil)) (pgi (by rfl) T.c_MOST_CELLS) (nomark _))))), ?_⟩
    refine ⟨_, rfl, v, l, rfl, hv, wf, fun H1 k1 => ⟨true, rfl, ?_⟩⟩
    refine iteT ?_
    obtain ⟨a, xs, rfl, hq, hp⟩ := hv.sqt
    refine ⟨_, rfl, a, xs, rfl, .inr (k1.sqt Wok.nil hq), (xs.length : Int), 60, rfl, rfl, ?_⟩
    show Q (.bl (decide ((xs.length : Int) ≤ 60))) H1
    rw [decide_eq_true (show (xs.length : Int) ≤ 60 by have := wf.len; rw [hp.length]; omega)]
    exact k H1 k1
/-! ### have_logs_form, is_logs: of the tuple without items -/
def spNoLogs (K : PySem.W.Frag) : Sp := fun vs H Q _ => ∃ a, vs = [.ref a] ∧ SqT K H a [] ∧ ∀ H', Ke [] H H' → Q (.bl true) H'
theorem sc_Have : FnScope ["thing", "log", "one", "other"] ["thing"] (defScope sHaveLogsForm) := ⟨rfl, rfl, rfl, by decide +kernel, rfl, by decide +kernel, by decide +kernel⟩
theorem ok_have (T : Tx K mg) : C8.Cal P w K mg base 4 "have_logs_form" (spNoLogs K) [] := by
  obtain ⟨fd, F⟩ := T.d_have_logs_form
  refine mk_cal F T.g_have_logs_form sc_Have (fun _ _ _ _ _ _ us hl => match us, hl with | [_], _ => rfl) (fun vs H Q E h => ?_) (fun cdv A outer s H vs Q E hr h => ?_)
  · obtain ⟨v, rfl, _⟩ := h
    rfl
  · obtain ⟨a, rfl, hq, k⟩ := h
    refine ⟨_, pss_cons (ps_if (PW.pt (pw_or (pt_not (pt_val (pe_callB call_isi (by rfl) T.b_isinstance boot_isinstance (pa_cons (pv 0) (pa_cons (pgt (by rfl) T.b_tuple boot_tuple) pa_nil)))))
        (pw_or1 (pt_not (pt_val (pe_callB (cr_all rfl) (by rfl) T.b_all boot_all (pa_cons (pe_lc (own := [("log", 1)]) (g := gName 1) (tt := tYes) rfl sc_Have.nd (pi_tup (pv 0))
          (blkOk_by (own := [("log", 1)]) (N := ["thing", "log", "one", "other"]) (sc := defScope sHaveLogsForm) (by decide +kernel)) (fun _ _ _ _ _ => pg_name (i := 1) sc_Have.nd rfl (Or.inl rfl)) (fun _ _ _ _ _ => pts_nil)
          (fun _ _ _ _ _ => pe_nv)) pa_nil))))))) (pss_one (ps_ret pe_bl)) pss_nil)
      (pss_one (ps_ret (pe_callB (cr_all rfl) (by rfl) T.b_all boot_all (pa_cons (pe_lc (own := [("one", 2), ("other", 3)]) (g := gTup K 2 (gCons (gName 2) (gCons (gName 3) gNil))) (tt := tYes) rfl sc_Have.nd (RZ.pi_zipA (by rfl) T.b_zip (pa_cons (pv 0) (pa_cons (pe_slice sl_tupN (pv 0) (po_some pe_int) po_none) pa_nil)))
          (blkOk_by (own := [("one", 2), ("other", 3)]) (N := ["thing", "log", "one", "other"]) (sc := defScope sHaveLogsForm) (by decide +kernel))
          (fun _ _ _ _ _ => pg_tup rfl (pgs_cons (pg_name (i := 2) sc_Have.nd rfl (Or.inl rfl)) (pgs_cons (pg_name (i := 3) sc_Have.nd rfl (Or.inl rfl)) pgs_nil))) (fun _ _ _ _ _ => pts_nil)
          (fun _ _ _ _ _ => pe_nv)) pa_nil)))), ?_⟩
    refine ⟨_, rfl, _, _, _, _, true, rfl, .ty _, sqT_ty hq, by rfl, true, rfl, ?_⟩
    refine iteF ?_
    refine ⟨_, rfl, a, rfl, ⟨[], hq⟩, fun D hD => lc_ac walk_tup (AcT H) ⟨rfl, Ke.new hD⟩ (fun i acc H1 _ _ z => z.2.sqt Wok.nil hq) (fun i x acc H1 H2 hi hd hl z y => ?_) (fun acc H1 hd hl z => ?_)⟩
    · exact absurd hi (Nat.not_lt_zero _)
    refine ⟨D, _, rfl, AcT.sq hd z.1, ?_⟩
    rw [allT]
    refine ⟨true, rfl, ?_⟩
    refine iteF ?_
    have k1 := z.2
    refine ⟨_, rfl, _, rfl, 1, rfl, a, [], rfl, k1.sqt Wok.nil hq, fun p H2 k2 hp2 => ?_⟩
    rw [show (some (1 : Int)) = some ((1 : Nat) : Int) from rfl, cut_from] at hp2
    have k12 := k1.trans k2
    refine ⟨a, p, [], [], rfl, .inr ⟨k12.sqt Wok.nil hq, hp2, fun D2 hD2 => lc_ac (walk_zipT (n := 0) rfl) (AcT H2) ⟨rfl, Ke.new hD2⟩ (fun i acc H3 _ _ z => ⟨(k12.trans z.2).sqt Wok.nil hq, z.2.sqt Wok.nil hp2⟩) (fun i x acc H3 H4 hi hd hl z y => ?_) (fun acc H3 hd hl z => ?_)⟩⟩
    · exact absurd hi (Nat.not_lt_zero _)
    refine ⟨D2, _, rfl, AcT.sq hd z.1, ?_⟩
    rw [allT]
    exact k _ (k12.trans z.2)
theorem sc_IsLogs : FnScope ["thing", "log"] ["thing"] (defScope sIsLogs) := ⟨rfl, rfl, rfl, by decide +kernel, rfl, by decide +kernel, by decide +kernel⟩
theorem ok_is_logs (T : Tx K mg) : C8.Cal P w K mg base 5 "is_logs" (spNoLogs K) [] := by
  obtain ⟨fd, F⟩ := T.d_is_logs
  have c1 : C8.Cal P w K mg base 4 "have_logs_form" (spNoLogs K) [] := ok_have T
  refine mk_cal F T.g_is_logs sc_IsLogs (fun _ _ _ _ _ _ us hl => match us, hl with | [_], _ => rfl) (fun vs H Q E h => ?_) (fun cdv A outer s H vs Q E hr h => ?_)
  · obtain ⟨v, rfl, _⟩ := h
    rfl
  · obtain ⟨a, rfl, hq, k⟩ := h
    refine ⟨_, pss_one (ps_ret (pe_and (C8.pe_c c1 hr (Nat.le_refl _) (by rfl) (pa_cons (pv 0) pa_nil))
      (pe_and (pe_cmpR op_le (pe_callB call_len_seq (by rfl) T.b_len PySem.boot_len (pa_cons (pv 0) pa_nil)) (pgi (by rfl) T.c_MOST_LOGS) (nomark _))
      (pe_one (pe_callB (cr_all rfl) (by rfl) T.b_all boot_all (pa_cons (pe_lc (own := [("log", 1)]) (g := gName 1) (tt := tYes) rfl sc_IsLogs.nd (pi_tup (pv 0))
          (blkOk_by (own := [("log", 1)]) (N := ["thing", "log"]) (sc := defScope sIsLogs) (by decide +kernel)) (fun _ _ _ _ _ => pg_name (i := 1) sc_IsLogs.nd rfl (Or.inl rfl)) (fun _ _ _ _ _ => pts_nil)
          (fun _ _ _ _ _ => pe_nv)) pa_nil)))))), ?_⟩
    refine ⟨_, rfl, a, rfl, hq, fun H1 k1 => ⟨true, rfl, ?_⟩⟩
    refine iteT ?_
    refine ⟨_, rfl, a, [], rfl, .inr (k1.sqt Wok.nil hq), (0 : Int), 300, rfl, rfl, true, rfl, ?_⟩
    refine iteT ?_
    have hq1 := k1.sqt Wok.nil hq
    refine ⟨_, rfl, a, rfl, ⟨[], hq1⟩, fun D hD => lc_ac walk_tup (AcT H1) ⟨rfl, Ke.new hD⟩ (fun i acc H2 _ _ z => z.2.sqt Wok.nil hq1) (fun i x acc H2 H3 hi hd hl z y => ?_) (fun acc H2 hd hl z => ?_)⟩
    · exact absurd hi (Nat.not_lt_zero _)
    refine ⟨D, _, rfl, AcT.sq hd z.1, ?_⟩
    rw [allT]
    exact k _ (k1.trans z.2)
end
end RO

/-! text D4 -/
set_option Elab.async false
set_option linter.all false
set_option maxRecDepth 100000
set_option maxHeartbeats 1000000
namespace L2
open PySem PySem.Spec PyProof.Rows
theorem crK {X : Cx} {f : Value} (r : PySem.W.Frag → List V → Hp → VK → Prop) (K : PySem.W.Frag) (c : CallR X f (r X.K)) (h : X.K = K := by rfl) : CallR X f (r K) := h ▸ c
theorem room_blk {k : Nat} {A : Around} (hr : Room k A) : A.units + 1 < cLine := by have := hr.units; omega
end L2
namespace RO
open PySem PySem.Spec PyProof.Rows L2
theorem frz_sqt {K : PySem.W.Frag} {H : Hp} {l : Addr} {o : Obj} {xs : List V} : SqT K (upd H l (.frz o (.tup xs))) l xs := .inl (.inr ⟨o, upd_same⟩)
theorem lay_tup {ds : List PyData} (h : PyData.canLayAll0 ds = true) : PyData.canLay0 (.tuple ds) = true := by simp [PyData.canLay0, h]
section
variable {P : Program} {w : World} {K : PySem.W.Frag} {mg : Str → Option Value} {base : Heap}
/-! ### shared_cells -/
def spShared (K : PySem.W.Frag) : Sp := fun vs H Q _ => ∃ v g, vs = [v] ∧ GrpT K H v g ∧ g ≠ [] ∧ (∀ l ∈ g, WfLog l) ∧ g.length ≤ 60 ∧
  ∀ (p : Addr) (H' : Hp) (cs : List Str), Ke [] H H' → SqT K H' p (cs.map V.str) → (∀ c, c ∈ cs ↔ Shr g c) → cs.length ≤ 60 → Q (.ref p) H'
theorem sc_Shared : FnScope ["logs", "others", "log", "cell", "value", "other"] ["logs"] (defScope sSharedCells) := ⟨rfl, rfl, rfl, by decide +kernel, rfl, by decide +kernel, by decide +kernel⟩
def shrB (g : List Log) (c : Str) : Bool := g.all fun l => (vOf l c).isSome
theorem shrB_iff {g : List Log} {c : Str} : shrB g c = true ↔ Shr g c := by
  unfold shrB Shr
  rw [List.all_eq_true]
  exact forall_congr' fun l => forall_congr' fun _ => Option.isSome_iff_exists
/-- the cells of those behind i -/
abbrev AcCells (l0 : Log) (g : List Log) (H0 : Hp) : Nat → List V → Hp → Prop := fun i acc H1 => acc = ((l0.take i).filter fun p => shrB g p.1).map (fun p => V.str p.1) ∧ Ke [] H0 H1
theorem ok_shared (T : Tx K mg) : C8.Cal P w K mg base 5 "shared_cells" (spShared K) [] := by
  obtain ⟨fd, F⟩ := T.d_shared_cells
  refine mk_cal F T.g_shared_cells sc_Shared (fun _ _ _ _ _ _ us hl => match us, hl with | [_], _ => rfl) (fun vs H Q E h => ?_) (fun cdv A outer s H vs Q E hr h => ?_)
  · obtain ⟨v, g, rfl, _⟩ := h
    rfl
  · obtain ⟨v, g, rfl, ⟨a, xs, rfl, hq, hp⟩, hne, wf, hz, k⟩ := h
    refine ⟨_, pss_cons (ps_if (pt_cmpR (op_eqM hr) (pv 0) (pe_tup pa_nil) (nomark _)) (pss_one (ps_ret pe_nv)) pss_nil)
      (pss_cons (ps_set sc_Shared.nd (i := 1) rfl (Or.inr rfl) (pe_lc (own := [("log", 2)]) (g := gName 2) (tt := tYes) rfl sc_Shared.nd (pi_tup (pe_slice sl_tupN (pv 0) (po_some pe_int) po_none))
          (blkOk_by (own := [("log", 2)]) (N := ["logs", "others", "log", "cell", "value", "other"]) (sc := defScope sSharedCells) (by decide +kernel)) (fun _ _ _ _ _ => pg_name (i := 2) sc_Shared.nd rfl (Or.inl rfl)) (fun _ _ _ _ _ => pts_nil)
          (fun _ _ _ _ _ => pe_callTy (crK rDictLog K (call_dictLog rfl)) (by rfl) T.b_dict boot_dict (pa_cons (pv 2) pa_nil))))
      (pss_one (ps_ret (pe_callTy call_tupF (by rfl) T.b_tuple boot_tuple (pa_cons (pe_lc (own := [("cell", 3), ("value", 4)]) (g := gTup K 2 (gCons (gName 3) (gCons (gName 4) gNil))) (tt := tB (tCB (rAll K) (tCons (tLc (iList K (tVar 1)) (gName 5) tYes (tDIn (tVar 3) (tVar 5)) [5]) tNil))) rfl sc_Shared.nd (pi_tup (pe_ix (ixT K) (pv 0) pe_int (fun _ _ => rfl)))
          (blkOk_by (own := [("cell", 3), ("value", 4)]) (N := ["logs", "others", "log", "cell", "value", "other"]) (sc := defScope sSharedCells) (by decide +kernel))
          (fun _ _ _ _ _ => pg_tup rfl (pgs_cons (pg_name (i := 3) sc_Shared.nd rfl (Or.inr rfl)) (pgs_cons (pg_name (i := 4) sc_Shared.nd rfl (Or.inl rfl)) pgs_nil)))
          (fun _ _ _ _ _ => by
            refine pts_one ?_
            refine pt_val ?_
            refine pe_callB (crAll K rfl) (by rfl) T.b_all boot_all ?_
            refine pa_cons ?_ pa_nil
            refine pe_lc (own := [("other", 5)]) (g := gName 5) (tt := tYes) rfl sc_Shared.nd ?_ ?_ ?_ ?_ ?_
            · exact pi_list (pv 1)
            · exact blkOk_by (by kernel_rfl)
            · exact fun _ _ _ _ _ => pg_name (i := 5) sc_Shared.nd rfl (Or.inl rfl)
            · exact fun _ _ _ _ _ => pts_nil
            · exact fun _ _ _ _ _ => pe_cmp (pc_din (room_blk hr) (pv 3) (pv 5)))
          (fun _ _ _ _ _ => pv 3)) pa_nil))))), ?_⟩
    obtain ⟨l0, tl, rfl⟩ : ∃ l0 tl, g = l0 :: tl := by
      cases g with
      | nil => exact absurd rfl hne
      | cons l0 tl => exact ⟨l0, tl, rfl⟩
    have hlen : xs.length = tl.length + 1 := by rw [hp.length]; rfl
    refine ⟨_, rfl, Nat.zero_le _, fun e0 he0 => ?_⟩
    have k0 : Ke [] H (upd H e0 (.tup [])) := Ke.new he0
    refine ⟨.tuple ((l0 :: tl).map eL), .tuple [], .tup (k0.sqt Wok.nil hq) (logs_dp (k0.logs Wok.nil hp)), .tup (SqT.of upd_same) .nil, lay_tup (lay_logs wf), by simp [PyData.canLay0, PyData.canLayAll0], by simp [PyData.depth, PyData.depthAll], false, by simp [PyData.eqv, PyData.eqvAll], ?_⟩
    refine iteF ?_
    -- others
    refine ⟨_, rfl, 1, rfl, a, xs, rfl, k0.sqt Wok.nil hq, fun p H1 k1 hp1 => ?_⟩
    rw [show (some (1 : Int)) = some ((1 : Nat) : Int) from rfl, cut_from] at hp1
    have k01 := k0.trans k1
    have hpt : LogsV K H (xs.drop 1) tl := Paired.drop 1 hp
    refine ⟨p, rfl, ⟨_, hp1⟩, fun D hD => lc_ac walk_tup (AcP DctV tl H1) (AcP.zero hD) (fun i acc H2 _ _ z => z.2.sqt Wok.nil hp1) (fun i x acc H2 H3 hi hd hl z y => ?_) (fun acc H2 hd hl z => ?_)⟩
    · obtain ⟨rfl, e1⟩ := y
      obtain ⟨l, e2, hlg⟩ := Paired.get hpt i x e1
      have k2 := k01.trans z.2
      refine ⟨rfl, yes_ite ?_⟩
      exact ⟨_, rfl, x, l, rfl, k2.log Wok.nil hlg, (wf l (List.mem_cons_of_mem _ (List.mem_of_getElem? e2))).nodup, fun q H4 hq0 k4 hd4 => AcP.more stab_dct hD hd hl (by rw [List.length_drop] at hi; have hz' : tl.length + 1 ≤ 60 := hz; omega) z k4 e2 ⟨q, rfl, hd4⟩⟩
    have hot : Paired (DctV H2) acc tl := z.fin (by rw [List.length_drop, hlen]; omega)
    have k2 := k01.trans z.2
    -- the cells
    have h0 := hp
    cases h0 with
    | cons hx0 hxt =>
    rename_i x0 xt
    obtain ⟨a0, ys, rfl, hq0, hp0⟩ := (k2.log Wok.nil hx0).sqt
    have wf0 := wf l0 (List.mem_cons_self ..)
    have hyl : ys.length = l0.length := hp0.length
    have hyz := wf0.len
    refine ⟨_, rfl, a, _, 0, _, rfl, rfl, k2.sqt Wok.nil hq, atI_nat (j := 0) rfl, a0, rfl, ⟨ys, hq0⟩, fun D2 hD2 => lc_ac walk_tup (AcCells l0 (l0 :: tl) H2) ⟨rfl, Ke.new hD2⟩ (fun i acc2 H3 _ _ z2 => z2.2.sqt Wok.nil hq0) (fun i x acc2 H3 H4 hi hd2 hl2 z2 y => ?_) (fun acc2 H3 hd2 hl2 z2 => ?_)⟩
    · obtain ⟨rfl, e1⟩ := y
      obtain ⟨pr, e2, t, rfl, ht⟩ := Paired.get hp0 i x e1
      have hD3 : H4 D = some (.lst acc) := z2.2.same _ _ hd
      have hot3 : Paired (DctV H4) acc tl := Paired.mapP hot fun v y h => stab_dct D acc H2 H4 v y hd z2.2.any h
      refine ⟨t, _, rfl, z2.2.sqt Wok.nil ht, rfl, _, _, rfl, _, _, rfl, rfl, rfl, ?_⟩
      refine ⟨_, rfl, D, rfl, ⟨acc, .inl (.inl hD3)⟩, fun D3 hD4 => lc_ac walk_list (fun j acc3 H5 => acc3 = (tl.take j).map (fun l => V.bl (vOf l pr.1).isSome) ∧ Ke [] H4 H5) ⟨rfl, Ke.new hD4⟩ (fun j acc3 H5 _ _ z3 => .inl (.inl (z3.2.same _ _ hD3))) (fun j x acc3 H5 H6 hj hd3 hl3 z3 y => ?_) (fun acc3 H5 hd3 hl3 z3 => ?_)⟩
      · obtain ⟨rfl, e3⟩ := y
        obtain ⟨l, e4, d, rfl, hdl⟩ := Paired.get hot3 j x e3
        have hdl4 : DctL H6 d l := by
          obtain ⟨kvs, e, k⟩ := hdl
          exact ⟨kvs, z3.2.same _ _ e, k⟩
        refine ⟨rfl, yes_ite ?_⟩
        refine ⟨_, rfl, _, rfl, d, _, rfl, hdl4.get pr.1, ?_⟩
        refine L2.Acc.more hd3 hl3 (by rw [hot3.length] at hj; simp at hz; omega) ⟨?_, z3.2.own hD4⟩
        rw [take_snoc e4, List.map_append, z3.1, Option.isSome_map]
        rfl
      · have ha : acc.length = tl.length := hot3.length
        have e3 : acc3 = (tl.map fun l => (vOf l pr.1).isSome).map V.bl := by
          rw [z3.1, ha, List.take_length, List.map_map]
          rfl
        refine ⟨D3, _, rfl, SqL.of (by rw [hd3, e3]), ?_⟩
        have hb : (tl.map fun l => (vOf l pr.1).isSome).all id = shrB (l0 :: tl) pr.1 := by
          obtain ⟨u, hu⟩ := vOf_some (c := pr.1) (v := pr.2) (List.mem_of_getElem? e2)
          unfold shrB
          rw [List.all_cons, hu, List.all_map]
          rfl
        rw [hb]
        have k3 : Ke [] H4 H5 := z3.2
        have hd5 : H5 D2 = some (.lst acc2) := k3.same _ _ hd2
        refine ⟨_, rfl, ?_⟩
        cases hc : shrB (l0 :: tl) pr.1 with
        | false =>
          refine ite_f rfl (L2.Acc.skip hd5 hl2 ⟨?_, z2.2.trans k3⟩)
          rw [take_snoc e2, List.filter_append, z2.1]
          simp [hc]
        | true =>
          refine ite_t rfl ⟨_, rfl, L2.Acc.more hd5 hl2 (by rw [hyl] at hi; omega) ⟨?_, (z2.2.trans k3).own hD2⟩⟩
          rw [take_snoc e2, List.filter_append, z2.1]
          simp [hc]
    · let cs : List Str := (l0.filter fun p => shrB (l0 :: tl) p.1).map (·.1)
      have e5 : acc2 = cs.map V.str := by
        rw [z2.1, hyl, List.take_length]
        simp [cs]
      have hcl : cs.length ≤ 60 := by
        have := List.length_filter_le (fun p : Str × Int => shrB (l0 :: tl) p.1) l0
        simp only [cs, List.length_map]
        omega
      refine ⟨D2, _, rfl, SqL.of (by rw [hd2, e5]), fun q hq0 o ho => ?_⟩
      refine k q _ cs ((k2.trans z2.2).trans (Ke.new hq0)) frz_sqt (fun c => ?_) hcl
      simp only [cs, List.mem_map, List.mem_filter]
      constructor
      · rintro ⟨p, ⟨_, h2⟩, rfl⟩
        exact shrB_iff.mp h2
      · intro h
        obtain ⟨v, hv⟩ := h l0 (List.mem_cons_self ..)
        exact ⟨(c, v), ⟨vOf_mem hv, shrB_iff.mpr h⟩, rfl⟩
end
end RO

/-! text P4 -/
set_option Elab.async false
set_option linter.all false
set_option maxRecDepth 100000
set_option maxHeartbeats 1000000
/-! A dict from values to lists of logs. -/
namespace RO
open PySem PySem.Spec PyProof.Rows L2
section
variable {K : PySem.W.Frag} {H H' H0 : Hp}
def PdF (K : PySem.W.Frag) (H : Hp) (kv : Key × V) (q : Int × List Log) : Prop := kv.1 = .inl q.1 ∧ ∃ a xs, kv.2 = .ref a ∧ H a = some (.lst xs) ∧ LogsV K H xs q.2
theorem PdF.keep {W : List Addr} {kv : Key × V} {q : Int × List Log} (h : PdF K H kv q) (n : ∀ a, kv.2 = .ref a → a ∉ W) (k : Ke W H H') (w : Wok W H) : PdF K H' kv q := by
  obtain ⟨e, a, xs, e2, h1, h2⟩ := h
  exact ⟨e, a, xs, e2, k a _ h1 (n a e2), k.logs w h2⟩
theorem pdF_keep {W : List Addr} (k : Ke W H H') (w : Wok W H) : ∀ {kvs : List (Key × V)} {qs : List (Int × List Log)}, (∀ kv ∈ kvs, ∀ a, kv.2 = .ref a → a ∉ W) → Paired (PdF K H) kvs qs → Paired (PdF K H') kvs qs
  | _, _, _, .nil => .nil
  | _, _, n, .cons h t => .cons (h.keep (n _ (List.mem_cons_self ..)) k w) (pdF_keep k w (fun kv hk => n kv (List.mem_cons_of_mem _ hk)) t)
/-- the dict at d tells the parts qs, all its lists made behind H0 -/
structure PD (K : PySem.W.Frag) (H0 : Hp) (d : Addr) (qs : List (Int × List Log)) (H : Hp) : Prop where
  ex : ∃ kvs, H d = some (.dK kvs) ∧ Paired (PdF K H) kvs qs ∧ (kvs.map (·.2)).Nodup ∧ ∀ kv ∈ kvs, ∀ a, kv.2 = .ref a → H0 a = none
theorem PD.empty {d : Addr} : PD K H0 d [] (upd H d (.dK [])) := ⟨[], upd_same, .nil, by simp, (fun _ h => nomatch h)⟩
theorem addP_new : ∀ {qs : List (Int × List Log)} {v : Int} {l : Log}, (∀ q ∈ qs, q.1 ≠ v) → addP qs v l = qs ++ [(v, [l])]
  | [], _, _, _ => rfl
  | q :: qs, v, l, h => by
    unfold addP
    rw [if_neg (h q (List.mem_cons_self ..)), addP_new fun r hr => h r (List.mem_cons_of_mem _ hr)]
    rfl
theorem pd_keys : ∀ {kvs : List (Key × V)} {qs : List (Int × List Log)}, Paired (PdF K H) kvs qs → kvs.map (·.1) = (qs.map (·.1)).map Sum.inl
  | _, _, .nil => rfl
  | _, _, .cons h t => by rw [List.map_cons, List.map_cons, List.map_cons, pd_keys t, h.1]
/-- where the value is there already: its list, and what an append makes of all -/
theorem pd_old {lv : V} {l : Log} {v : Int} (hl : LogV K H lv l) : ∀ {kvs : List (Key × V)} {qs : List (Int × List Log)} {x : V}, Paired (PdF K H) kvs qs → (kvs.map (·.2)).Nodup → valV kvs (.inl v) = some x →
    ∃ a xs, x = .ref a ∧ x ∈ kvs.map (·.2) ∧ H a = some (.lst xs) ∧ (∃ g', LogsV K H xs g' ∧ ∃ q ∈ qs, q.2 = g') ∧ Paired (PdF K (upd H a (.lst (xs ++ [lv])))) kvs (addP qs v l)
  | _, _, x, .nil, _, e => by cases e
  | _, _, x, .cons (a := kv) (b := q) (l₁ := kvs) (l₂ := qs) h t, n, e => by
    have n2 := List.nodup_cons.mp n
    by_cases ev : q.1 = v
    · have ek : kv.1 = .inl v := by rw [h.1, ev]
      rw [valV_pos ek] at e
      cases e
      obtain ⟨e1, a, xs, e2, h1, h2⟩ := h
      have hw : Wok [a] H := Wok.one (mut_lst h1)
      have k : Ke [a] H (upd H a (.lst (xs ++ [lv]))) := Ke.on (List.mem_singleton.mpr rfl)
      refine ⟨a, xs, e2, List.mem_cons_self .., h1, ⟨q.2, h2, q, List.mem_cons_self .., rfl⟩, ?_⟩
      unfold addP
      rw [if_pos ev]
      refine .cons ⟨e1, a, _, e2, upd_same, Paired.app (k.logs hw h2) (.cons (k.log hw hl) .nil)⟩ (pdF_keep k hw (fun kv' hk b eb hb => ?_) t)
      rw [List.mem_singleton] at hb
      subst hb
      exact n2.1 (by show kv.2 ∈ _; rw [e2, ← eb]; exact List.mem_map_of_mem hk)
    · have ek : ¬ kv.1 = .inl v := by rw [h.1]; exact fun z => ev (Sum.inl.inj z)
      rw [valV_neg ek] at e
      obtain ⟨a, xs, e1, e2, h1, ⟨g', h2, r, hr, er⟩, p⟩ := pd_old hl t n2.2 e
      refine ⟨a, xs, e1, List.mem_cons_of_mem _ e2, h1, ⟨g', h2, r, List.mem_cons_of_mem _ hr, er⟩, ?_⟩
      unfold addP
      rw [if_neg ev]
      refine .cons (h.keep (fun b eb hb => ?_) (Ke.on (List.mem_singleton.mpr rfl)) (Wok.one (mut_lst h1))) p
      rw [List.mem_singleton] at hb
      subst hb
      exact n2.1 (by show kv.2 ∈ _; rw [eb, ← e1]; exact e2)
/-- where it is not: a list of its own -/
theorem pd_new {lv : V} {l : Log} {v : Int} {d p : Addr} {kvs : List (Key × V)} {qs : List (Int × List Log)} (hl : LogV K H lv l) (hd : H d = some (.dK kvs)) (hp : H p = some (.lst [])) (hn : ∀ kv ∈ kvs, kv.2 ≠ .ref p) (hp2 : Paired (PdF K H) kvs qs) (nd : (kvs.map (·.2)).Nodup)
    (e : valV kvs (.inl v) = none) (h0 : ∀ kv ∈ kvs, ∀ a, kv.2 = .ref a → H0 a = none) (hp0 : H0 p = none) : PD K H0 d (addP qs v l) (upd (upd H d (.dK (putK kvs (.inl v) (.ref p)))) p (.lst [lv])) := by
  have hdp : d ≠ p := by rintro rfl; rw [hd] at hp; cases hp
  have k : Ke [d, p] H (upd (upd H d (.dK (putK kvs (.inl v) (.ref p)))) p (.lst [lv])) := (Ke.on (by simp)).trans (Ke.on (by simp))
  have hw : Wok [d, p] H := fun b hb => by
    rcases List.mem_cons.mp hb with rfl | hb
    · rw [hd]; trivial
    · rw [List.mem_singleton.mp hb, hp]; trivial
  have keys : ∀ q ∈ qs, q.1 ≠ v := by
    intro q hq z
    have := valV_not e
    rw [pd_keys hp2] at this
    exact this (List.mem_map_of_mem (z ▸ List.mem_map_of_mem hq))
  refine ⟨kvs ++ [(.inl v, .ref p)], by rw [upd_ne hdp, upd_same, putK_new _ e], ?_, ?_, fun kv hk a ea => ?_⟩
  · rw [addP_new keys]
    refine Paired.app (pdF_keep k hw (fun kv hk a ea ha => ?_) hp2) (.cons ⟨rfl, p, [lv], rfl, upd_same, .cons (k.log hw hl) .nil⟩ .nil)
    rcases List.mem_cons.mp ha with rfl | ha
    · obtain ⟨q, _, h⟩ : ∃ q, q ∈ qs ∧ PdF K H kv q := by
        obtain ⟨i, hi, ei⟩ := List.mem_iff_getElem.mp hk
        obtain ⟨q, e1, e2⟩ := Paired.get hp2 i kv (by rw [List.getElem?_eq_getElem hi, ei])
        exact ⟨q, List.mem_of_getElem? e1, e2⟩
      obtain ⟨_, b, xs, eb, h1, _⟩ := h
      rw [ea] at eb
      cases eb
      rw [hd] at h1
      cases h1
    · rw [List.mem_singleton] at ha
      exact hn kv hk (by rw [ea, ha])
  · rw [List.map_append, List.nodup_append]
    refine ⟨nd, by simp, fun a ha b hb => ?_⟩
    obtain ⟨kv, h1, rfl⟩ := List.mem_map.mp ha
    simp only [List.map_cons, List.map_nil, List.mem_singleton] at hb
    rw [hb]
    exact hn kv h1
  · rcases List.mem_append.mp hk with hk | hk
    · exact h0 kv hk a ea
    · rw [List.mem_singleton] at hk
      rw [hk] at ea
      cases ea
      exact hp0
theorem pd_get : ∀ {kvs : List (Key × V)} {qs : List (Int × List Log)} {q : Int × List Log}, Paired (PdF K H) kvs qs → (qs.map (·.1)).Nodup → q ∈ qs → ∃ a xs, valV kvs (.inl q.1) = some (.ref a) ∧ H a = some (.lst xs) ∧ LogsV K H xs q.2
  | _, _, q, .nil, _, h => nomatch h
  | _, _, q, .cons (a := kv) (b := r) (l₁ := kvs) (l₂ := qs) h t, n, hq => by
    have n2 := List.nodup_cons.mp n
    rcases List.mem_cons.mp hq with rfl | hq
    · obtain ⟨e1, a, xs, e2, h1, h2⟩ := h
      exact ⟨a, xs, by rw [valV_pos e1, e2], h1, h2⟩
    · obtain ⟨a, xs, e1, h1, h2⟩ := pd_get t n2.2 hq
      refine ⟨a, xs, ?_, h1, h2⟩
      rw [valV_neg, e1]
      rw [h.1]
      exact fun z => n2.1 (by show r.1 ∈ _; rw [Sum.inl.inj z]; exact List.mem_map_of_mem hq)
/-- a pair of a value and a tuple of logs -/
def PartV (K : PySem.W.Frag) (H : Hp) (v : V) (q : Int × List Log) : Prop := ∃ t b xs, v = .ref t ∧ SqT K H t [.int q.1, .ref b] ∧ SqT K H b xs ∧ LogsV K H xs q.2
theorem Ke.partV {W : List Addr} (k : Ke W H H') (w : Wok W H) {v : V} {q : Int × List Log} : PartV K H v q → PartV K H' v q := fun ⟨t, b, xs, e, h1, h2, h3⟩ => ⟨t, b, xs, e, k.sqt w h1, k.sqt w h2, k.logs w h3⟩
theorem stab_part : Stab (PartV K) := fun D acc H H' v y h k => k.partV (Wok.one (mut_lst h))
theorem PD.keep {d : Addr} {qs : List (Int × List Log)} (h : PD K H0 d qs H) (k : Ke [] H H') : PD K H0 d qs H' := by
  obtain ⟨kvs, h1, h2, h3, h4⟩ := h.ex
  exact ⟨kvs, k.same _ _ h1, pdF_keep k Wok.nil (fun _ _ _ _ z => nomatch z) h2, h3, h4⟩
theorem fst_order {qs : List (Int × List Log)} {ys : List Int} (h : ys.Perm (qs.map (·.1))) : ∃ rs : List (Int × List Log), rs.Perm qs ∧ rs.map (·.1) = ys := by
  have hp : Paired (fun (y : Int) (q : Int × List Log) => y = q.1) (qs.map (·.1)) qs := by
    induction qs with
    | nil => exact .nil
    | cons q qs ih =>
      have : ∀ rs : List (Int × List Log), Paired (fun (y : Int) (q : Int × List Log) => y = q.1) (rs.map (·.1)) rs := by
        intro rs
        induction rs with
        | nil => exact .nil
        | cons r rs ih => exact .cons rfl ih
      exact this _
  obtain ⟨rs, p, q⟩ := Paired.perm h hp
  refine ⟨rs, p, ?_⟩
  clear p hp h
  induction q with
  | nil => rfl
  | cons e t ih => rw [List.map_cons, ih, e]
end
end RO

/-! text D5 -/
set_option Elab.async false
set_option linter.all false
set_option maxRecDepth 100000
set_option maxHeartbeats 1000000
namespace RO
open PySem PySem.Spec PyProof.Rows L2
section
variable {P : Program} {w : World} {K : PySem.W.Frag} {mg : Str → Option Value} {base : Heap}
/-! ### parts_by -/
def spParts (K : PySem.W.Frag) : Sp := fun vs H Q _ => ∃ (v : V) (g : List Log) (c : Str), vs = [v, .str c] ∧ GrpT K H v g ∧ (∀ l ∈ g, WfLog l) ∧ Shr g c ∧ g.length ≤ 60 ∧
  ∀ (p : Addr) (H' : Hp) (xs : List V) (qs : List (Int × List Log)), Ke [] H H' → H' p = some (.lst xs) → Paired (PartV K H') xs qs → PartsOf g c qs → Q (.ref p) H'
theorem sc_Parts : FnScope ["logs", "cell", "parts", "log", "value"] ["logs", "cell"] (defScope sPartsBy) := ⟨rfl, rfl, rfl, by decide +kernel, rfl, by decide +kernel, by decide +kernel⟩
theorem ok_parts_by (T : Tx K mg) : C8.Cal P w K mg base 5 "parts_by" (spParts K) [] := by
  obtain ⟨fd, F⟩ := T.d_parts_by
  refine mk_cal F T.g_parts_by sc_Parts (fun _ _ _ _ _ _ us hl => match us, hl with | [_, _], _ => rfl) (fun vs H Q E h => ?_) (fun cdv A outer s H vs Q E hr h => ?_)
  · obtain ⟨v, g, c, rfl, _⟩ := h
    rfl
  · obtain ⟨v, g, c, rfl, ⟨a, xs, rfl, hq, hp⟩, wf, sh, hz, k⟩ := h
    refine ⟨_, pss_cons (ps_set sc_Parts.nd (i := 2) rfl (Or.inr rfl) pe_dnewK)
      (pss_cons (ps_for PassesOwn.never rfl (pi_tup (pv 0)) (pg_name (i := 3) sc_Parts.nd rfl (Or.inl rfl))
        (pss_one (ps_expr (pe_bm PySem.F.plainAttrs_list PySem.F.slot_list_append PySem.F.type_list_append mt_append
          (pe_dsetd (pv 2) (pe_dget (room_blk hr) (pe_callTy (call_dictLog rfl) (by rfl) T.b_dict boot_dict (pa_cons (pv 3) pa_nil)) (pv 1) (fun _ _ => rfl)) (pe_lst pa_nil) ⟨rfl, rfl, rfl, rfl⟩) (pa_cons (pv 3) pa_nil)))))
      (pss_one (ps_ret (pe_lc (own := [("value", 4)]) (g := gName 4) (tt := tYes)
          (te := tTup (tCons (tVar 4) (tCons (tCB (rTupF K) (tCons (tDGet (tVar 2) (tVar 4)) tNil)) tNil))) rfl sc_Parts.nd (pi_list (pe_callB (call_sortedDI rfl) (by rfl) T.b_sorted boot_sorted (pa_cons (pv 2) pa_nil)))
          (blkOk_by (own := [("value", 4)]) (N := ["logs", "cell", "parts", "log", "value"]) (sc := defScope sPartsBy) (by decide +kernel)) (fun _ _ _ _ _ => pg_name (i := 4) sc_Parts.nd rfl (Or.inl rfl)) (fun _ _ _ _ _ => pts_nil)
          (fun _ _ _ _ _ => by
            refine pe_tup ?_
            refine pa_cons (pv 4) ?_
            refine pa_cons ?_ pa_nil
            refine pe_callTy (crK rTupF K call_tupF) (by rfl) T.b_tuple boot_tuple ?_
            exact pa_cons (pe_dget (room_blk hr) (pv 2) (pv 4) (fun _ _ => rfl)) pa_nil))))), ?_⟩
    intro d hd0
    refine ⟨_, rfl, a, rfl, ⟨xs, (Ke.new hd0).sqt Wok.nil hq⟩, for_it walk_tup
      (fun i σ H1 => ∃ u qs, σ = [some (.ref a), some (.str c), some (.ref d), u, none] ∧ Ke [] H H1 ∧ PD K H d qs H1 ∧ PartsOf (g.take i) c qs) ⟨none, [], rfl, Ke.new hd0, PD.empty, by rw [List.take_zero]; exact parts_nil⟩
      (fun i σ H1 _ z => z.choose_spec.choose_spec.2.1.sqt Wok.nil hq) (fun i x σ H1 H2 hi z y => ?_) (fun σ H1 z => ?_)⟩
    · obtain ⟨u, qs, rfl, k1, pd, po⟩ := z
      obtain ⟨rfl, e1⟩ := y
      obtain ⟨l, e2, hlg⟩ := Paired.get hp i x e1
      have hml := List.mem_of_getElem? e2
      obtain ⟨vl, hvl⟩ := sh l hml
      have hlen : qs.length ≤ 60 := by
        have := po.len
        rw [List.length_take] at this
        omega
      obtain ⟨kvs0, ed0, _⟩ := pd.ex
      refine ⟨_, rfl, d, rfl, .inl ⟨kvs0, .inl ed0⟩, ?_⟩
      refine ⟨_, rfl, x, l, rfl, k1.log Wok.nil hlg, (wf l hml).nodup, fun q H3 hq0 k3 hdl => ⟨_, rfl, q, .int vl, rfl, ?_, ?_⟩⟩
      · have := hdl.get c
        rw [hvl] at this
        exact this
      · refine ⟨Nat.zero_le _, fun p hp0 => ?_⟩
        have k4 : Ke [] H2 (upd H3 p (.lst [])) := k3.trans (Ke.new hp0)
        have pd4 := pd.keep k4
        have hl4 : LogV K (upd H3 p (.lst [])) x l := (k1.trans k4).log Wok.nil hlg
        obtain ⟨kvs, ed, pr, nd, h0⟩ := pd4.ex
        have hkl : kvs.length = qs.length := pr.length
        have hpH : H p = none := (k1.trans k3).same.free hp0
        refine ⟨kvs, .inl vl, ed, rfl, by rw [sizeLine_eq]; omega, fun w1 hw1 => ?_, fun hn => ?_⟩
        · obtain ⟨a1, ys, rfl, hm1, ha1, ⟨g', hg', r, hr1, er⟩, pr2⟩ := pd_old hl4 pr nd hw1
          refine ⟨.inl ⟨rfl, _, SqL.of ha1⟩, _, rfl, a1, ys, x, rfl, rfl, ha1, ?_, ?_⟩
          · rw [hg'.length, ← er, (po.is r hr1).1]
            have h1 := List.length_filter_le (fun l => decide (vOf l c = some r.1)) (g.take i)
            have h2 : (part (g.take i) c r.1).length = ((g.take i).filter fun l => decide (vOf l c = some r.1)).length := rfl
            rw [List.length_take] at h1
            rw [sizeLine_eq]
            omega
          · have ha0 : H a1 = none := by
              obtain ⟨kv, hk, ek⟩ := List.mem_map.mp hm1
              exact h0 kv hk a1 ek
            refine ⟨_, _, rfl, (k1.trans k4).own ha0, ⟨kvs, ?_, pr2, nd, h0⟩, ?_⟩
            · rw [upd_ne (by rintro rfl; rw [ed] at ha1; cases ha1)]
              exact ed
            · rw [take_snoc e2]
              exact po.add hvl
        · have hp4 : (upd H3 p (.lst [])) p = some (.lst []) := upd_same
          have hpn : p ≠ d := by
            rintro rfl
            rw [hp4] at ed
            cases ed
          have h5 : (upd (upd H3 p (.lst [])) d (.dK (putK kvs (.inl vl) (.ref p)))) p = some (.lst []) := by rw [upd_ne hpn]; exact hp4
          refine ⟨.inl ⟨rfl, _, SqL.of h5⟩, _, rfl, p, [], x, rfl, rfl, h5, by rw [sizeLine_eq]; decide, ?_⟩
          refine ⟨_, addP qs vl l, rfl, ?_, ?_, ?_⟩
          · have hdH : H d = none := hd0
            exact ((k1.trans k4).own hdH).own hpH
          · refine pd_new hl4 ed hp4 (fun kv hk z => ?_) pr nd hn h0 hpH
            have := k3.same.free hp0
            obtain ⟨j, hj, ej⟩ := List.mem_iff_getElem.mp hk
            obtain ⟨kvs', ed', pr', nd', h0'⟩ := pd.ex
            have e' := k4.same _ _ ed'
            rw [ed] at e'
            cases e'
            obtain ⟨q', _, h⟩ := Paired.get pr' j kv (by rw [List.getElem?_eq_getElem hj, ej])
            obtain ⟨_, b, bs, eb, h1, _⟩ := h
            rw [z] at eb
            cases eb
            rw [this] at h1
            cases h1
          · rw [take_snoc e2]
            exact po.add hvl
    · obtain ⟨u, qs, rfl, k1, pd, po⟩ := z
      have hxl : xs.length = g.length := hp.length
      rw [hxl, List.take_length] at po
      obtain ⟨kvs, ed, pr, nd, h0⟩ := pd.ex
      have hql := po.len
      refine ⟨_, rfl, d, kvs, qs.map (·.1), rfl, .inl ed, pd_keys pr, by rw [List.length_map]; omega, fun ys p hys _ hp0 => ?_⟩
      obtain ⟨rs, hrs, ers⟩ := fst_order hys
      have po2 := po.perm hrs
      have k2 := k1.trans (Ke.new hp0 (o := .lst (ys.map V.int)))
      have hl2 : SqL K (upd H1 p (.lst (ys.map V.int))) p (ys.map V.int) := SqL.of upd_same
      refine ⟨p, rfl, ⟨_, hl2⟩, fun D hD => lc_ac walk_list (AcP (PartV K) rs (upd H1 p (.lst (ys.map V.int)))) (AcP.zero hD) (fun i acc H3 _ _ z => z.2.sql hl2) (fun i x acc H3 H4 hi hd hl z y => ?_) (fun acc H3 hd hl z => ?_)⟩
      · obtain ⟨rfl, e1⟩ := y
        rw [← ers, List.map_map, List.getElem?_map] at e1
        obtain ⟨q, e2, e3⟩ := Option.map_eq_some_iff.mp e1
        have hi2 : i < 60 := by
          have h1 := (List.getElem?_eq_some_iff.mp e2).1
          have := hrs.length_eq
          omega
        have k13 := (Ke.new hp0 (o := .lst (ys.map V.int))).trans z.2
        have pr3 := pdF_keep k13 Wok.nil (fun _ _ _ _ z => nomatch z) pr
        obtain ⟨a1, zs, ev, ha1, hzs⟩ := pd_get pr3 po.keys (hrs.mem_iff.mp (List.mem_of_getElem? e2))
        subst e3
        refine ⟨rfl, yes_ite ?_⟩
        refine ⟨_, rfl, _, rfl, _, rfl, d, .ref a1, rfl, ?_, ?_⟩
        · have := DGet.k (k := .inl q.1) (k13.same _ _ ed)
          rw [ev] at this
          exact this
        · refine ⟨a1, zs, rfl, SqL.of ha1, fun b hb0 o ho => ?_⟩
          refine ⟨by rw [sizeLine_eq]; exact Nat.le_of_ble_eq_true rfl, fun t ht0 => ?_⟩
          have k5 : Ke [] H4 (upd (upd H4 b (.frz o (.tup zs))) t (.tup [.int q.1, .ref b])) := (Ke.new hb0).trans (Ke.new ht0)
          exact AcP.more stab_part hD hd hl (by omega) z k5 e2 ⟨t, b, zs, rfl, SqT.of upd_same, (Ke.new ht0).sqt Wok.nil frz_sqt, k5.logs Wok.nil hzs⟩
      · have hf := z.fin (by rw [List.length_map, ← ers, List.length_map]; exact Nat.le_refl _)
        exact k D H3 acc rs (k2.trans z.2) hd hf po2
end
end RO

/-! text D6 -/
set_option Elab.async false
set_option linter.all false
set_option maxRecDepth 100000
set_option maxHeartbeats 1000000
namespace RO
open PySem PySem.Spec PyProof.Rows L2
theorem firstMet_nd (val : Nat → Int) : ∀ i, (PyProof.Rows.firstMet val i).Nodup
  | 0 => by rw [PyProof.Rows.firstMet_zero]; simp
  | i + 1 => by
    rw [PyProof.Rows.firstMet_succ]
    unfold PyProof.Rows.step_dedup
    have ih := firstMet_nd val i
    split
    · exact ih
    · rename_i h
      refine List.nodup_append.mpr ⟨ih, by simp, fun a ha b hb e => h ?_⟩
      rw [List.mem_singleton] at hb
      rw [List.any_eq_true]
      exact ⟨a, ha, by rw [e, hb]; simp⟩
theorem mem_ddN {ns : List Int} {k : Int} : k ∈ ddN ns ↔ k ∈ ns := by
  have h := PyProof.Rows.firstMet_any (fun i => ns.getD i 0) ns.length k
  have e : (List.range ns.length).map (fun i => ns.getD i 0) = ns := by
    apply List.ext_getElem
    · simp
    · intro i h1 h2
      simp [List.getD_eq_getElem?_getD, List.getElem?_eq_getElem h2]
  rw [e] at h
  have : ∀ l : List Int, (l.any (· == k)) = true ↔ k ∈ l := by simp [List.any_eq_true]
  rw [← this, ← this]
  show (PyProof.Rows.firstMet (fun i => ns.getD i 0) ns.length).any _ = true ↔ _
  rw [h]
theorem ddN_one {ns : List Int} (h : ∀ x ∈ ns, ∀ y ∈ ns, x = y) : (ddN ns).length ≤ 1 := by
  have n : (ddN ns).Nodup := firstMet_nd _ _
  match e : ddN ns, n with
  | [], _ => simp
  | [a], _ => simp
  | a :: b :: r, n =>
    have h1 : a ∈ ns := mem_ddN.mp (by rw [e]; simp)
    have h2 : b ∈ ns := mem_ddN.mp (by rw [e]; simp)
    have := h a h1 b h2
    simp [this] at n
theorem ddN_two {ns : List Int} {x y : Int} (hx : x ∈ ns) (hy : y ∈ ns) (n : x ≠ y) : 1 < (ddN ns).length := by
  have h1 := mem_ddN.mpr hx
  have h2 := mem_ddN.mpr hy
  match e : ddN ns with
  | [] => rw [e] at h1; simp at h1
  | [a] =>
    rw [e, List.mem_singleton] at h1 h2
    exact absurd (h1.trans h2.symm) n
  | a :: b :: r => simp
def splB (g : List Log) (c : Str) : Bool := decide (1 < (ddN (g.map fun l => (vOf l c).getD 0)).length)
theorem splB_iff {g : List Log} {c : Str} (s : Shr g c) : splB g c = true ↔ Splits c g := by
  unfold splB
  rw [decide_eq_true_eq]
  constructor
  · intro h
    refine ⟨s, Classical.byContradiction fun z => ?_⟩
    have : (ddN (g.map fun l => (vOf l c).getD 0)).length ≤ 1 := ddN_one fun x hx y hy => by
      obtain ⟨l, hl, rfl⟩ := List.mem_map.mp hx
      obtain ⟨m, hm, rfl⟩ := List.mem_map.mp hy
      rw [Classical.byContradiction fun q => z ⟨l, hl, m, hm, q⟩]
    omega
  · rintro ⟨_, l, hl, m, hm, n⟩
    obtain ⟨v, hv⟩ := s l hl
    obtain ⟨u, hu⟩ := s m hm
    refine ddN_two (List.mem_map_of_mem hl) (List.mem_map_of_mem hm) ?_
    show (vOf l c).getD 0 ≠ (vOf m c).getD 0
    rw [hv, hu]
    rw [hv, hu] at n
    exact fun z => n (congrArg some z)
section
variable {P : Program} {w : World} {K : PySem.W.Frag} {mg : Str → Option Value} {base : Heap}
/-! ### splitting_cells -/
def spSpl (K : PySem.W.Frag) : Sp := fun vs H Q _ => ∃ v g, vs = [v] ∧ GrpT K H v g ∧ g ≠ [] ∧ (∀ l ∈ g, WfLog l) ∧ g.length ≤ 60 ∧
  ∀ (p : Addr) (H' : Hp) (cs : List Str), Ke [] H H' → SqT K H' p (cs.map V.str) → (∀ c, c ∈ cs ↔ Splits c g) → cs.length ≤ 60 → Q (.ref p) H'
theorem sc_Spl : FnScope ["logs", "maps", "log", "cell", "one"] ["logs"] (defScope sSplittingCells) := ⟨rfl, rfl, rfl, by decide +kernel, rfl, by decide +kernel, by decide +kernel⟩
abbrev AcSpl (cs : List Str) (g : List Log) (H0 : Hp) : Nat → List V → Hp → Prop := fun i acc H1 => acc = ((cs.take i).filter (splB g)).map V.str ∧ Ke [] H0 H1
theorem ok_spl (T : Tx K mg) : C8.Cal P w K mg base 6 "splitting_cells" (spSpl K) [] := by
  obtain ⟨fd, F⟩ := T.d_splitting_cells
  have c1 : C8.Cal P w K mg base 5 "shared_cells" (spShared K) [] := ok_shared T
  refine mk_cal F T.g_splitting_cells sc_Spl (fun _ _ _ _ _ _ us hl => match us, hl with | [_], _ => rfl) (fun vs H Q E h => ?_) (fun cdv A outer s H vs Q E hr h => ?_)
  · obtain ⟨v, g, rfl, _⟩ := h
    rfl
  · obtain ⟨v, g, rfl, ⟨a, xs, rfl, hq, hp⟩, hne, wf, hz, k⟩ := h
    refine ⟨_, pss_cons (ps_set sc_Spl.nd (i := 1) rfl (Or.inr rfl) (pe_lc (own := [("log", 2)]) (g := gName 2) (tt := tYes) rfl sc_Spl.nd (pi_tup (pv 0))
          (blkOk_by (own := [("log", 2)]) (N := ["logs", "maps", "log", "cell", "one"]) (sc := defScope sSplittingCells) (by decide +kernel)) (fun _ _ _ _ _ => pg_name (i := 2) sc_Spl.nd rfl (Or.inl rfl)) (fun _ _ _ _ _ => pts_nil)
          (fun _ _ _ _ _ => pe_callTy (crK rDictLog K (call_dictLog rfl)) (by rfl) T.b_dict boot_dict (pa_cons (pv 2) pa_nil))))
      (pss_one (ps_ret (pe_callTy call_tupF (by rfl) T.b_tuple boot_tuple (pa_cons (pe_lc (own := [("cell", 3)]) (g := gName 3)
          (tt := tTest (tOp (rI0 fun i j => .bl (decide (j < i))) (tLenSetJ K (tLc (iList K (tVar 1)) (gName 4) tYes (tDGet (tVar 4) (tVar 3)) [4])) (tC (.int 1)))) rfl sc_Spl.nd
          (pi_tup (C8.pe_c c1 hr (Nat.le_refl _) (by rfl) (pa_cons (pv 0) pa_nil)))
          (blkOk_by (own := [("cell", 3)]) (N := ["logs", "maps", "log", "cell", "one"]) (sc := defScope sSplittingCells) (by decide +kernel))
          (fun _ _ _ _ _ => pg_name (i := 3) sc_Spl.nd rfl (Or.inr rfl))
          (fun _ _ _ _ _ => by
            refine pts_one ?_
            refine pt_cmpR op_gt ?_ pe_int (nomark _)
            refine pe_lenSetJ (by rfl) T.b_len (by rfl) T.b_set ?_
            refine pe_lc (own := [("one", 4)]) (g := gName 4) (tt := tYes) rfl sc_Spl.nd ?_ ?_ ?_ ?_ ?_
            · exact pi_list (pv 1)
            · exact blkOk_by (by kernel_rfl)
            · exact fun _ _ _ _ _ => pg_name (i := 4) sc_Spl.nd rfl (Or.inl rfl)
            · exact fun _ _ _ _ _ => pts_nil
            · exact fun _ _ _ _ _ => pe_dget (room_blk hr) (pv 4) (pv 3) (fun _ _ => rfl))
          (fun _ _ _ _ _ => pv 3)) pa_nil)))), ?_⟩
    refine ⟨_, rfl, a, rfl, ⟨_, hq⟩, fun D hD => lc_ac walk_tup (AcP DctV g H) (AcP.zero hD) (fun i acc H2 _ _ z => z.2.sqt Wok.nil hq) (fun i x acc H2 H3 hi hd hl z y => ?_) (fun acc H2 hd hl z => ?_)⟩
    · obtain ⟨rfl, e1⟩ := y
      obtain ⟨l, e2, hlg⟩ := Paired.get hp i x e1
      refine ⟨rfl, yes_ite ?_⟩
      exact ⟨_, rfl, x, l, rfl, z.2.log Wok.nil hlg, (wf l (List.mem_of_getElem? e2)).nodup, fun q H4 hq0 k4 hd4 => AcP.more stab_dct hD hd hl (by have := hp.length; omega) z k4 e2 ⟨q, rfl, hd4⟩⟩
    have hot : Paired (DctV H2) acc g := z.fin (by rw [hp.length]; exact Nat.le_refl _)
    have k2 := z.2
    refine ⟨_, rfl, .ref a, g, rfl, ⟨a, xs, rfl, k2.sqt Wok.nil hq, k2.logs Wok.nil hp⟩, hne, wf, hz, fun p H3 cs k3 hcs mcs lcs => ?_⟩
    refine ⟨p, rfl, ⟨_, hcs⟩, fun D2 hD2 => lc_ac walk_tup (AcSpl cs g H3) ⟨rfl, Ke.new hD2⟩ (fun i acc2 H4 _ _ z2 => z2.2.sqt Wok.nil hcs) (fun i x acc2 H4 H5 hi hd2 hl2 z2 y => ?_) (fun acc2 H4 hd2 hl2 z2 => ?_)⟩
    · obtain ⟨rfl, e1⟩ := y
      rw [List.getElem?_map] at e1
      obtain ⟨c, e2, e3⟩ := Option.map_eq_some_iff.mp e1
      subst e3
      have hsh := (mcs c).mp
      have hD5 : H5 D = some (.lst acc) := z2.2.same _ _ (k3.same _ _ hd)
      have hot3 : Paired (DctV H5) acc g := Paired.mapP hot fun v y h => stab_dct D acc H2 H5 v y hd (k3.trans z2.2).any h
      have ilt : i < 60 := by rw [List.length_map] at hi; omega
      refine ⟨rfl, ?_⟩
      refine ⟨_, rfl, D, rfl, ⟨acc, .inl (.inl hD5)⟩, fun D3 hD4 => lc_ac walk_list (fun j acc3 H6 => acc3 = (g.take j).map (fun l => V.int ((vOf l c).getD 0)) ∧ Ke [] H5 H6) ⟨rfl, Ke.new hD4⟩ (fun j acc3 H6 _ _ z3 => .inl (.inl (z3.2.same _ _ hD5))) (fun j x acc3 H6 H7 hj hd3 hl3 z3 y => ?_) (fun acc3 H6 hd3 hl3 z3 => ?_)⟩
      · obtain ⟨rfl, e3⟩ := y
        obtain ⟨l, e4, d, rfl, kvs, ek, hk⟩ := Paired.get hot3 j x e3
        have hdl : DctL H7 d l := ⟨kvs, z3.2.same _ _ ek, hk⟩
        obtain ⟨u, hu⟩ := hsh (List.mem_of_getElem? e2) l (List.mem_of_getElem? e4)
        refine ⟨rfl, yes_ite ?_⟩
        refine ⟨_, rfl, _, rfl, d, .int u, rfl, ?_, ?_⟩
        · have := hdl.get c
          rw [hu] at this
          exact this
        · refine L2.Acc.more hd3 hl3 (by rw [hot3.length] at hj; omega) ⟨?_, z3.2.own hD4⟩
          rw [take_snoc e4, List.map_append, z3.1]
          simp [hu]
      · have ha : acc.length = g.length := hot3.length
        have e3 : acc3 = (g.map fun l => (vOf l c).getD 0).map V.int := by
          rw [z3.1, ha, List.take_length, List.map_map]
          rfl
        refine ⟨D3, _, rfl, SqL.of (by rw [hd3, e3]), by rw [List.length_map]; omega, ?_⟩
        have k6 : Ke [] H5 H6 := z3.2
        have hd6 : H6 D2 = some (.lst acc2) := k6.same _ _ hd2
        refine ⟨_, _, rfl, rfl, splB g c, ?_, ?_⟩
        · show V.bl (decide ((1 : Int) < ((ddN (g.map fun l => (vOf l c).getD 0)).length : Nat))) = V.bl (splB g c)
          unfold splB
          congr 1
          simp only [decide_eq_decide]
          omega
        cases hc : splB g c with
        | false =>
          refine ite_f rfl (L2.Acc.skip hd6 hl2 ⟨?_, z2.2.trans k6⟩)
          rw [take_snoc e2, List.filter_append, z2.1]
          simp [hc]
        | true =>
          refine ite_t rfl ⟨_, rfl, L2.Acc.more hd6 hl2 (by omega) ⟨?_, (z2.2.trans k6).own hD2⟩⟩
          rw [take_snoc e2, List.filter_append, z2.1]
          simp [hc]
    · have e5 : acc2 = (cs.filter (splB g)).map V.str := by
        rw [z2.1, List.length_map, List.take_length]
      have hcl := List.length_filter_le (splB g) cs
      refine ⟨D2, _, rfl, SqL.of (by rw [hd2, e5]), fun q hq0 o ho => ?_⟩
      refine k q _ (cs.filter (splB g)) (((k2.trans k3).trans z2.2).trans (Ke.new hq0)) frz_sqt (fun c => ?_) (by omega)
      rw [List.mem_filter]
      constructor
      · rintro ⟨h1, h2⟩
        exact (splB_iff ((mcs c).mp h1)).mp h2
      · intro h
        exact ⟨(mcs c).mpr h.1, (splB_iff h.1).mpr h⟩
end
end RO

/-! text M2 -/
set_option Elab.async false
set_option linter.all false
set_option maxHeartbeats 1000000
/-! Plain: groups taken apart until nothing splits. -/
namespace RO
open PySem
structure BlkI (g : List Log) (fg wg : List (List Log)) : Prop where
  fin : ∀ B ∈ fg, Within B g ∧ ∀ c, ¬ Splits c B
  wai : ∀ B ∈ wg, Within B g ∧ B ≠ []
  few : fg.length + (wg.map List.length).sum ≤ g.length
  all : ∀ h, Stk h → (∀ x ∈ h, x ∈ g) → ∃ B, (B ∈ fg ∨ B ∈ wg) ∧ ∀ x ∈ h, x ∈ B
def blkM (wg : List (List Log)) : Nat := (wg.map fun B => 2 * B.length - 1).sum
theorem BlkI.start {g : List Log} (n : g.Nodup) (h : g ≠ []) : BlkI g [] [g] :=
  ⟨(fun _ z => nomatch z), fun B hB => by rw [List.mem_singleton.mp hB]; exact ⟨Within.refl n, h⟩, by simp, fun k _ t => ⟨g, .inr (List.mem_singleton.mpr rfl), t⟩⟩
theorem BlkI.none : BlkI [] [] [] :=
  ⟨(fun _ z => nomatch z), (fun _ z => nomatch z), by simp, fun k s t => by
    obtain ⟨⟨l, hl, _⟩, _⟩ := s
    exact absurd (t l hl) (by simp)⟩
theorem BlkI.leaf {g B : List Log} {fg wg : List (List Log)} (I : BlkI g fg (wg ++ [B])) (n : ∀ c, ¬ Splits c B) : BlkI g (fg ++ [B]) wg := by
  have hB := I.wai B (by simp)
  refine ⟨fun C hC => ?_, fun C hC => I.wai C (List.mem_append_left _ hC), ?_, fun h s t => ?_⟩
  · rcases List.mem_append.mp hC with h | h
    · exact I.fin C h
    · rw [List.mem_singleton.mp h]
      exact ⟨hB.1, n⟩
  · have h1 := I.few
    have h2 : 0 < B.length := List.length_pos_iff.mpr hB.2
    simp only [List.map_append, List.sum_append, List.map_cons, List.map_nil, List.sum_cons, List.sum_nil, List.length_append, List.length_singleton] at h1 ⊢
    omega
  · obtain ⟨C, h1, h2⟩ := I.all h s t
    refine ⟨C, ?_, h2⟩
    rcases h1 with h1 | h1
    · exact .inl (List.mem_append_left _ h1)
    · rcases List.mem_append.mp h1 with h1 | h1
      · exact .inr h1
      · exact .inl (List.mem_append_right _ h1)
theorem blkM_leaf {B : List Log} {wg : List (List Log)} (h : B ≠ []) : blkM wg < blkM (wg ++ [B]) := by
  have h2 : 0 < B.length := List.length_pos_iff.mpr h
  simp only [blkM, List.map_append, List.sum_append, List.map_cons, List.map_nil, List.sum_cons, List.sum_nil]
  omega
theorem BlkI.split {g B : List Log} {fg wg : List (List Log)} {c : Str} {qs : List (Int × List Log)} (I : BlkI g fg (wg ++ [B])) (P : PartsOf B c qs) (s : Splits c B) : BlkI g fg (wg ++ qs.map (·.2)) := by
  have hB := I.wai B (by simp)
  refine ⟨I.fin, fun C hC => ?_, ?_, fun h st t => ?_⟩
  · rcases List.mem_append.mp hC with h | h
    · exact I.wai C (List.mem_append_left _ h)
    · obtain ⟨q, hq, rfl⟩ := List.mem_map.mp h
      obtain ⟨e, n⟩ := P.is q hq
      refine ⟨?_, n⟩
      rw [e]
      exact (part_within hB.1.1).trans hB.1
  · have h1 := I.few
    have h2 := parts_sum qs B P.keys fun q hq => (P.is q hq).1
    simp only [List.map_append, List.sum_append, List.map_cons, List.map_nil, List.sum_cons, List.sum_nil, List.map_map] at h1 ⊢
    have e : (qs.map (List.length ∘ fun q => q.2)).sum = (qs.map fun q => q.2.length).sum := rfl
    omega
  · obtain ⟨C, h1, h2⟩ := I.all h st t
    rcases h1 with h1 | h1
    · exact ⟨C, .inl h1, h2⟩
    · rcases List.mem_append.mp h1 with h1 | h1
      · exact ⟨C, .inr (List.mem_append_left _ h1), h2⟩
      · rw [List.mem_singleton] at h1
        subst h1
        obtain ⟨v, ⟨l, hl, hv⟩, hh⟩ := stk_part s.1 st h2
        obtain ⟨q, hq, e⟩ := P.all l hl v hv
        refine ⟨q.2, .inr (List.mem_append_right _ (List.mem_map_of_mem hq)), fun x hx => ?_⟩
        rw [(P.is q hq).1, e]
        exact hh x hx
theorem blkM_parts : ∀ qs : List (Int × List Log), (∀ q ∈ qs, q.2 ≠ []) → (qs.map fun q => 2 * q.2.length - 1).sum + qs.length ≤ 2 * (qs.map fun q => q.2.length).sum
  | [], _ => by simp
  | q :: qs, h => by
    have ih := blkM_parts qs fun r hr => h r (List.mem_cons_of_mem _ hr)
    have : 0 < q.2.length := List.length_pos_iff.mpr (h q (List.mem_cons_self ..))
    simp only [List.map_cons, List.sum_cons, List.length_cons]
    omega
theorem blkM_split {B : List Log} {wg : List (List Log)} {c : Str} {qs : List (Int × List Log)} (P : PartsOf B c qs) (s : Splits c B) : blkM (wg ++ qs.map (·.2)) < blkM (wg ++ [B]) := by
  have h1 := P.two s
  have h2 := parts_sum qs B P.keys fun q hq => (P.is q hq).1
  have h3 := blkM_parts qs fun q hq => (P.is q hq).2
  have e : (qs.map ((fun B : List Log => 2 * B.length - 1) ∘ fun q => q.2)).sum = (qs.map fun q => 2 * q.2.length - 1).sum := rfl
  simp only [blkM, List.map_append, List.sum_append, List.map_cons, List.map_nil, List.sum_cons, List.sum_nil, List.map_map]
  omega
theorem BlkI.wlen {g : List Log} {fg wg : List (List Log)} (I : BlkI g fg wg) : fg.length ≤ g.length ∧ wg.length ≤ g.length := by
  have h : ∀ l : List (List Log), (∀ B ∈ l, B ≠ []) → l.length ≤ (l.map List.length).sum := by
    intro l
    induction l with
    | nil => intro _; simp
    | cons B l ih =>
      intro h
      have := ih fun C hC => h C (List.mem_cons_of_mem _ hC)
      have : 0 < B.length := List.length_pos_iff.mpr (h B (List.mem_cons_self ..))
      simp only [List.map_cons, List.sum_cons, List.length_cons]
      omega
  have h1 := h wg fun B hB => (I.wai B hB).2
  have h2 := I.few
  omega
/-- what the blocks of a group tell -/
structure BlksOf (g : List Log) (bs : List (List Log)) : Prop where
  fin : ∀ B ∈ bs, Within B g ∧ ∀ c, ¬ Splits c B
  all : ∀ h, Stk h → (∀ x ∈ h, x ∈ g) → ∃ B ∈ bs, ∀ x ∈ h, x ∈ B
  few : bs.length ≤ g.length
theorem BlkI.done {g : List Log} {fg bs : List (List Log)} (I : BlkI g fg []) (p : bs.Perm fg) : BlksOf g bs :=
  ⟨fun B hB => I.fin B (p.mem_iff.mp hB), fun h s t => by
    obtain ⟨B, h1, h2⟩ := I.all h s t
    rcases h1 with h1 | h1
    · exact ⟨B, p.mem_iff.mpr h1, h2⟩
    · exact absurd h1 (by simp), by rw [p.length_eq]; exact I.wlen.1⟩
theorem BlksOf.stk {g B : List Log} {bs : List (List Log)} (h : BlksOf g bs) (hB : B ∈ bs) (n : 2 ≤ B.length) : Stk B := ⟨nodup_two (h.fin B hB).1.1 n, (h.fin B hB).2⟩
theorem BlksOf.ok {g : List Log} {bs : List (List Log)} (h : BlksOf g bs) (n : ∀ B ∈ bs, ¬ 2 ≤ B.length) : Ok g := fun k t s => by
  obtain ⟨B, hB, h2⟩ := h.all k s t
  obtain ⟨l, hl, m, hm, z⟩ := s.1
  exact n B hB (len_two ⟨l, h2 l hl, m, h2 m hm, z⟩)
end RO

/-! text D7 -/
set_option Elab.async false
set_option linter.all false
set_option maxRecDepth 100000
set_option maxHeartbeats 1000000
namespace L2
open PySem PySem.Spec PyProof.Rows
/-- a statement by what holds behind it -/
theorem seq_join {t u : TS} {D : Ends} {σ : St} {H : Hp} (J : St → Hp → Prop) (h : ∀ D' : Ends, D'.rt = D.rt → (∀ σ H, J σ H → D'.nx σ H) → t D' σ H) (hk : ∀ σ H, J σ H → u D σ H) : tSeq t u D σ H := h { D with nx := u D } rfl hk
theorem nx_join {t u : TS} {D : Ends} {rt : VK} {bk ct : St → Hp → Prop} {σ : St} {H : Hp} (J : St → Hp → Prop) (h : ∀ D' : Ends, D'.rt = D.rt → (∀ σ H, J σ H → D'.nx σ H) → t D' σ H) (hk : ∀ σ H, J σ H → u D σ H) : Ends.nx ⟨tSeq t u D, rt, bk, ct⟩ σ H :=
  seq_join J h hk
end L2
namespace RO
open PySem PySem.Spec PyProof.Rows L2
theorem lay_strs {cs : List Str} (h : ∀ c ∈ cs, IsCell c) : PyData.canLayAll0 (cs.map PyData.str) = true := layAll PyData.str cs fun c hc => by simp [PyData.canLay0, (h c hc).strOk]
theorem strs_dp {K : PySem.W.Frag} {H : Hp} : ∀ cs : List Str, DpAll K H (cs.map V.str) (cs.map PyData.str)
  | [] => .nil
  | c :: cs => .cons (.str c) (strs_dp cs)
theorem depth_strs (cs : List Str) : (PyData.tuple (cs.map PyData.str)).depth ≤ 2 := by
  have h := depthAll_le PyData.str 1 (fun c => by simp [PyData.depth]) cs
  simp only [PyData.depth]
  omega
theorem grps_dp {K : PySem.W.Frag} {H : Hp} : ∀ {xs : List V} {gs : List (List Log)}, Paired (GrpT K H) xs gs → DpAll K H xs (gs.map eG)
  | _, _, .nil => .nil
  | _, _, .cons h t => .cons h.dp (grps_dp t)
theorem lay_grps {gs : List (List Log)} (h : ∀ g ∈ gs, ∀ l ∈ g, WfLog l) : PyData.canLayAll0 (gs.map eG) = true := layAll eG gs fun g hg => lay_tup (lay_logs (h g hg))
theorem split_cell {g : List Log} (wf : ∀ l ∈ g, WfLog l) {c : Str} (h : Splits c g) : IsCell c := by
  obtain ⟨s, l, hl, _⟩ := h
  obtain ⟨v, hv⟩ := s l hl
  exact ((wf l hl).ok _ (vOf_mem hv)).1
section
variable {P : Program} {w : World} {K : PySem.W.Frag} {mg : Str → Option Value} {base : Heap}
/-! ### blocks -/
def spBlocks (K : PySem.W.Frag) : Sp := fun vs H Q _ => ∃ v g, vs = [v] ∧ GrpT K H v g ∧ g.Nodup ∧ (∀ l ∈ g, WfLog l) ∧ g.length ≤ 60 ∧
  ∀ (p : Addr) (H' : Hp) (xs : List V) (bs : List (List Log)), Ke [] H H' → SqT K H' p xs → Paired (GrpT K H') xs bs → BlksOf g bs → Q (.ref p) H'
theorem sc_Blocks : FnScope ["logs", "found", "waiting", "group", "cells", "value", "part"] ["logs"] (defScope sBlocks) := ⟨rfl, rfl, rfl, by decide +kernel, rfl, by decide +kernel, by decide +kernel⟩
theorem ok_blocks (T : Tx K mg) : C8.Cal P w K mg base 7 "blocks" (spBlocks K) [] := by
  obtain ⟨fd, F⟩ := T.d_blocks
  have c1 : C8.Cal P w K mg base 6 "splitting_cells" (spSpl K) [] := ok_spl T
  have c2 : C8.Cal P w K mg base 5 "parts_by" (spParts K) [] := ok_parts_by T
  refine mk_cal F T.g_blocks sc_Blocks (fun _ _ _ _ _ _ us hl => match us, hl with | [_], _ => rfl) (fun vs H Q E h => ?_) (fun cdv A outer s H vs Q E hr h => ?_)
  · obtain ⟨v, g, rfl, _⟩ := h
    rfl
  · obtain ⟨v, g, rfl, ⟨a, xs, rfl, hq, hp⟩, hnd, wf, hz, k⟩ := h
    refine ⟨_, pss_cons (ps_par (i := 1) (j := 2) rfl sc_Blocks.nd rfl rfl (by decide) rfl rfl (pa_cons (pe_lst pa_nil) (pa_cons (pe_lst pa_nil) pa_nil)) (by rfl))
      (pss_cons (ps_if (pt_cmpR op_gt (pe_callB call_len_seq (by rfl) T.b_len PySem.boot_len (pa_cons (pv 0) pa_nil)) pe_int (nomark _))
        (pss_one (ps_expr (pe_bm PySem.F.plainAttrs_list PySem.F.slot_list_append PySem.F.type_list_append mt_append (pv 2) (pa_cons (pv 0) pa_nil)))) pss_nil)
      (pss_cons (ps_while PassesOwn.never (pt_cmpR (op_neM hr) (pv 2) (pe_lst pa_nil) (nomark _))
        (pss_cons (ps_set sc_Blocks.nd (i := 3) rfl (Or.inl rfl) (pe_bm0 PySem.F.plainAttrs_list PySem.F.slot_list_pop PySem.F.type_list_pop mt_pop (pv 2)))
        (pss_cons (ps_set sc_Blocks.nd (i := 4) rfl (Or.inl rfl) (C8.pe_c c1 hr (Nat.le_refl _) (by rfl) (pa_cons (pv 3) pa_nil)))
        (pss_one (ps_if (pt_cmpR (op_eqM hr) (pv 4) (pe_tup pa_nil) (nomark _))
          (pss_one (ps_expr (pe_bm PySem.F.plainAttrs_list PySem.F.slot_list_append PySem.F.type_list_append mt_append (pv 1) (pa_cons (pv 3) pa_nil))))
          (pss_one (ps_expr (pe_bm PySem.F.plainAttrs_list PySem.F.slot_list_extend PySem.F.type_list_extend mt_extend (pv 2) (pa_cons
            (pe_lc (own := [("value", 5), ("part", 6)]) (g := gTup K 2 (gCons (gName 5) (gCons (gName 6) gNil))) (tt := tYes) rfl sc_Blocks.nd (pi_list (C8.pe_c c2 hr (by omega) (by rfl) (pa_cons (pv 3) (pa_cons (pe_ix ix_tup (pv 4) pe_int (fun _ _ => rfl)) pa_nil))))
            (blkOk_by (own := [("value", 5), ("part", 6)]) (N := ["logs", "found", "waiting", "group", "cells", "value", "part"]) (sc := defScope sBlocks) (by decide +kernel))
            (fun _ _ _ _ _ => pg_tup rfl (pgs_cons (pg_name (i := 5) sc_Blocks.nd rfl (Or.inl rfl)) (pgs_cons (pg_name (i := 6) sc_Blocks.nd rfl (Or.inl rfl)) pgs_nil))) (fun _ _ _ _ _ => pts_nil)
            (fun _ _ _ _ _ => pv 6)) pa_nil)))))))))
      (pss_one (ps_ret (pe_callTy call_tupF (by rfl) T.b_tuple boot_tuple (pa_cons (pe_callB (cr_sortedB hr) (by rfl) T.b_sorted boot_sorted (pa_cons (pv 1) pa_nil)) pa_nil)))))), ?_⟩
    refine ⟨Nat.zero_le _, fun f hf0 => ⟨Nat.zero_le _, fun wa hw0 => ⟨_, _, rfl, ?_⟩⟩⟩
    have hfw : f ≠ wa := by
      rintro rfl
      rw [upd_same] at hw0
      cases hw0
    have hwH : H wa = none := by rw [upd_ne hfw.symm] at hw0; exact hw0
    have k0 : Ke [] H (upd (upd H f (.lst [])) wa (.lst [])) := (Ke.new hf0).trans (Ke.new hw0)
    refine nx_join (fun σ H1 => ∃ ws wg, σ = [some (.ref a), some (.ref f), some (.ref wa), none, none, none, none] ∧ Ke [] H H1 ∧ H1 f = some (.lst []) ∧ H1 wa = some (.lst ws) ∧ Paired (GrpT K H1) ws wg ∧ BlkI g [] wg) (fun D' hD' hk => ?_) (fun σ H1 hj => ?_)
    · refine ⟨_, rfl, a, xs, rfl, .inr (k0.sqt Wok.nil hq), (xs.length : Int), 0, rfl, rfl, _, rfl, ?_⟩
      refine ite2 (fun hb => ?_) (fun hb => ?_)
      · have hne : g ≠ [] := by
          rintro rfl
          have := hp.length
          simp [this] at hb
        refine ⟨_, rfl, .inl ⟨rfl, _, SqL.of upd_same⟩, _, rfl, wa, [], .ref a, rfl, rfl, upd_same, by rw [sizeLine_eq]; decide, hk _ _ ⟨[.ref a], [g], rfl, k0.own hwH, ?_, upd_same, ?_, BlkI.start hnd hne⟩⟩
        · rw [upd_ne hfw, upd_ne hfw, upd_same]
        · have k1 := k0.own (o := .lst ([] ++ [V.ref a])) hwH
          exact .cons ⟨a, xs, rfl, k1.sqt Wok.nil hq, k1.logs Wok.nil hp⟩ .nil
      · have hne : g = [] := by
          rw [decide_eq_true_eq] at hb
          have := hp.length
          exact List.length_eq_zero_iff.mp (by omega)
        subst hne
        exact hk _ _ ⟨[], [], rfl, k0, by rw [upd_ne hfw, upd_same], upd_same, .nil, BlkI.none⟩
    · obtain ⟨ws0, wg0, rfl, k1, hf1, hw1, hws0, bi0⟩ := hj
      have hfH : H f = none := hf0
      refine ⟨fun m σ H2 => ∃ u3 u4 fs ws fg wg, σ = [some (.ref a), some (.ref f), some (.ref wa), u3, u4, none, none] ∧ Ke [] H H2 ∧ H2 f = some (.lst fs) ∧ H2 wa = some (.lst ws) ∧ Paired (GrpT K H2) fs fg ∧ Paired (GrpT K H2) ws wg ∧ BlkI g fg wg ∧ blkM wg = m,
        ⟨blkM wg0, none, none, [], ws0, [], wg0, rfl, k1, hf1, hw1, .nil, hws0, bi0, rfl⟩, ?_⟩
      rintro m σ H2 ⟨u3, u4, fs, ws, fg, wg, rfl, k2, hf2, hw2, hfs, hws, bi, rfl⟩
      have wl := bi.wlen
      have wwf : ∀ B ∈ wg, ∀ l ∈ B, WfLog l := fun B hB l hl => wf l ((bi.wai B hB).1.2 l hl)
      refine ⟨_, rfl, Nat.zero_le _, fun e0 he0 => ?_⟩
      have k3 : Ke [] H2 (upd H2 e0 (.lst [])) := Ke.new he0
      have hw3 := k3.same _ _ hw2
      have hf3 := k3.same _ _ hf2
      have hws3 : Paired (GrpT K (upd H2 e0 (.lst []))) ws wg := Paired.mapP hws fun _ _ => k3.grp Wok.nil
      have hfs3 : Paired (GrpT K (upd H2 e0 (.lst []))) fs fg := Paired.mapP hfs fun _ _ => k3.grp Wok.nil
      refine ⟨.list (wg.map eG), .list [], .lst (SqL.of hw3) (grps_dp hws3), .lst (SqL.of upd_same) .nil, by simp [PyData.canLay0, lay_grps wwf], by simp [PyData.canLay0, PyData.canLayAll0], by simp [PyData.depth, PyData.depthAll], _, rfl, ?_⟩
      have k23 := k2.trans k3
      by_cases hwe : wg = []
      · subst hwe
        have hwe2 : ws = [] := List.length_eq_zero_iff.mp hws.length
        subst hwe2
        refine ite_f (by simp [PyData.eqv, PyData.eqvAll]) ?_
        refine ⟨_, rfl, f, fs, fg, rfl, .inl (SqL.of hf3), hfs3, fun p xs' bs hp0 hxs pm _ => ?_⟩
        refine ⟨p, xs', rfl, SqL.of upd_same, fun q hq0 o ho => ?_⟩
        have k4 := (Ke.new hp0 (W := []) (o := .lst xs')).trans (Ke.new hq0 (o := .frz o (.tup xs')))
        exact k q _ xs' bs (k23.trans k4) frz_sqt (Paired.mapP hxs fun _ _ => k4.grp Wok.nil) (bi.done pm)
      · have hwl : 0 < wg.length := List.length_pos_iff.mpr hwe
        have hws_l := hws.length
        refine ite_t (by
          cases wg with
          | nil => exact absurd rfl hwe
          | cons B r => simp [PyData.eqv, PyData.eqvAll]) ⟨fun σ' H' => ∃ m', m' < blkM wg ∧ _, fun _ _ h => h, ?_⟩
        have hi : ws.length - 1 < ws.length := by omega
        have e1 : ws[ws.length - 1]? = some ws[ws.length - 1] := List.getElem?_eq_getElem hi
        obtain ⟨B, e2, hB⟩ := Paired.get hws3 _ _ e1
        rw [hws_l] at e2
        have ewg : wg = wg.take (wg.length - 1) ++ [B] := by
          rw [← take_snoc e2, List.take_of_length_le (by omega)]
        have hwt : Paired (GrpT K (upd H2 e0 (.lst []))) ws.dropLast (wg.take (wg.length - 1)) := by
          rw [List.dropLast_eq_take, hws_l]
          exact Paired.take _ hws3
        generalize hW : wg.take (wg.length - 1) = wt at *
        subst ewg
        have hBm := bi.wai B (by simp)
        have wfB : ∀ l ∈ B, WfLog l := fun l hl => wf l (hBm.1.2 l hl)
        have hBz : B.length ≤ 60 := by have := hBm.1.len; omega
        refine ⟨_, rfl, .inl ⟨rfl, _, SqL.of hw3⟩, wa, ws, _, rfl, rfl, hw3, e1, ?_⟩
        have hwn : H wa = none := hwH
        have k4 : Ke [] H (upd (upd H2 e0 (.lst [])) wa (.lst ws.dropLast)) := k23.own hwn
        have kw : Ke [wa] (upd H2 e0 (.lst [])) (upd (upd H2 e0 (.lst [])) wa (.lst ws.dropLast)) := Ke.on (by simp)
        have ww : Wok [wa] (upd H2 e0 (.lst [])) := Wok.one (mut_lst hw3)
        have hB4 := kw.grp ww hB
        have hwt4 : Paired (GrpT K (upd (upd H2 e0 (.lst [])) wa (.lst ws.dropLast))) ws.dropLast wt := Paired.mapP hwt fun _ _ => kw.grp ww
        have hfs4 : Paired (GrpT K (upd (upd H2 e0 (.lst [])) wa (.lst ws.dropLast))) fs fg := Paired.mapP hfs3 fun _ _ => kw.grp ww
        have hf4 : (upd (upd H2 e0 (.lst [])) wa (.lst ws.dropLast)) f = some (.lst fs) := by rw [upd_ne hfw]; exact hf3
        have hw4 : (upd (upd H2 e0 (.lst [])) wa (.lst ws.dropLast)) wa = some (.lst ws.dropLast) := upd_same
        generalize upd (upd H2 e0 (.lst [])) wa (.lst ws.dropLast) = H4 at *
        refine ⟨_, rfl, _, B, rfl, hB4, hBm.2, wfB, hBz, fun cp H5 cs k5 hcs mcs lcs => ?_⟩
        refine ⟨_, rfl, Nat.zero_le _, fun e5 he5 => ?_⟩
        have k56 : Ke [] H5 (upd H5 e5 (.tup [])) := Ke.new he5
        have k46 := k5.trans k56
        refine ⟨.tuple (cs.map PyData.str), .tuple [], .tup (k56.sqt Wok.nil hcs) (strs_dp cs), .tup (SqT.of upd_same) .nil, lay_tup (lay_strs fun c hc => split_cell wfB ((mcs c).mp hc)), by simp [PyData.canLay0, PyData.canLayAll0], by have := depth_strs cs; omega, _, rfl, ?_⟩
        have hf6 := k46.same _ _ hf4
        have hw6 := k46.same _ _ hw4
        have hB6 := k46.grp Wok.nil hB4
        have hfs6 : Paired (GrpT K (upd H5 e5 (.tup []))) fs fg := Paired.mapP hfs4 fun _ _ => k46.grp Wok.nil
        have hwt6 : Paired (GrpT K (upd H5 e5 (.tup []))) ws.dropLast wt := Paired.mapP hwt4 fun _ _ => k46.grp Wok.nil
        have hcs6 := k56.sqt Wok.nil hcs
        have k6 := k4.trans k46
        generalize upd H5 e5 (.tup []) = H6 at *
        have hwtl : wt.length ≤ 60 := by rw [List.length_append] at wl; omega
        cases cs with
        | nil =>
          refine ite_t (by simp [PyData.eqv, PyData.eqvAll]) ?_
          have hno : ∀ c, ¬ Splits c B := fun c hc => by simpa using (mcs c).mpr hc
          refine ⟨_, rfl, .inl ⟨rfl, _, SqL.of hf6⟩, _, rfl, f, fs, _, rfl, rfl, hf6, by rw [hfs6.length, sizeLine_eq]; omega, ?_⟩
          have kf : Ke [f] H6 (upd H6 f (.lst (fs ++ [ws[ws.length - 1]]))) := Ke.on (by simp)
          have wf6 : Wok [f] H6 := Wok.one (mut_lst hf6)
          refine ⟨blkM wt, blkM_leaf hBm.2, _, _, _, ws.dropLast, fg ++ [B], wt, rfl, k6.own hfH, upd_same, by rw [upd_ne hfw.symm]; exact hw6, ?_, Paired.mapP hwt6 fun _ _ => kf.grp wf6, bi.leaf hno, rfl⟩
          exact Paired.app (Paired.mapP hfs6 fun _ _ => kf.grp wf6) (.cons (kf.grp wf6 hB6) .nil)
        | cons c cr =>
          refine ite_f (by simp [PyData.eqv, PyData.eqvAll]) ?_
          have hsp : Splits c B := (mcs c).mp (by simp)
          refine ⟨_, rfl, .inl ⟨rfl, _, SqL.of hw6⟩, ?_⟩
          refine ⟨_, rfl, _, rfl, cp, _, 0, _, rfl, rfl, hcs6, atI_nat (j := 0) rfl, _, B, c, rfl, hB6, wfB, hsp.1, hBz, fun pp H7 xs7 qs k7 hpp hxs7 po => ?_⟩
          refine ⟨pp, rfl, ⟨_, SqL.of hpp⟩, fun D hD => lc_ac walk_list (AcP (GrpT K) (qs.map (·.2)) H7) (AcP.zero hD) (fun i acc H8 _ _ z => SqL.of (z.2.same _ _ hpp)) (fun i x acc H8 H9 hi hd hl z y => ?_) (fun acc H8 hd hl z => ?_)⟩
          · obtain ⟨rfl, e3⟩ := y
            obtain ⟨q, e4, t, b, ys, rfl, ht, hb, hys⟩ := Paired.get hxs7 i x e3
            have hql := po.len
            have hil := hxs7.length
            refine ⟨t, _, rfl, z.2.sqt Wok.nil ht, rfl, _, _, rfl, _, _, rfl, rfl, rfl, yes_ite ?_⟩
            exact ⟨_, rfl, AcP.more stab_grp hD hd hl (by omega) z Ke.rfl (by rw [List.getElem?_map, e4]; rfl) ⟨b, ys, rfl, z.2.sqt Wok.nil hb, z.2.logs Wok.nil hys⟩⟩
          · have hac := z.fin (by rw [List.length_map, hxs7.length]; exact Nat.le_refl _)
            have k68 := k7.trans z.2
            have hw8 := k68.same _ _ hw6
            have hf8 := k68.same _ _ hf6
            have hql := po.len
            have hacl := hac.length
            rw [List.length_map] at hacl
            have hwt8 : Paired (GrpT K H8) ws.dropLast wt := Paired.mapP hwt6 fun _ _ => k68.grp Wok.nil
            have hwl8 := hwt8.length
            refine ⟨wa, D, ws.dropLast, acc, rfl, rfl, hw8, hd, by rw [sizeLine_eq]; omega, ?_⟩
            have kf : Ke [wa] H8 (upd H8 wa (.lst (ws.dropLast ++ acc))) := Ke.on (by simp)
            have wf8 : Wok [wa] H8 := Wok.one (mut_lst hw8)
            refine ⟨blkM (wt ++ qs.map (·.2)), blkM_split po hsp, _, _, fs, _, fg, wt ++ qs.map (·.2), rfl, (k6.trans k68).own hwn, by rw [upd_ne hfw]; exact hf8, upd_same, ?_, ?_, bi.split po hsp, rfl⟩
            · exact Paired.mapP hfs6 fun _ _ h => kf.grp wf8 (k68.grp Wok.nil h)
            · exact Paired.app (Paired.mapP hwt8 fun _ _ => kf.grp wf8) (Paired.mapP hac fun _ _ => kf.grp wf8)
end
end RO

/-! text D8 -/
set_option Elab.async false
set_option linter.all false
set_option maxRecDepth 100000
set_option maxHeartbeats 1000000
namespace RO
open PySem PySem.Spec PyProof.Rows L2
/-- what is asked of a group that is handed over -/
structure GIn (K : PySem.W.Frag) (H : Hp) (v : V) (g : List Log) : Prop where
  at_ : GrpT K H v g
  nd : g.Nodup
  wf : ∀ l ∈ g, WfLog l
  len : g.length ≤ 60
/-- None where all is well, else a stuck group within -/
def Ans (K : PySem.W.Frag) (H : Hp) (g : List Log) (Q : VK) : Prop := (∀ H', Ke [] H H' → Ok g → Q .non H') ∧ ∀ H' v B, Ke [] H H' → GrpT K H' v B → Within B g → Stk B → Q v H'
theorem GIn.within {K : PySem.W.Frag} {H H' : Hp} {v u : V} {g B : List Log} (h : GIn K H v g) (b : GrpT K H' u B) (w : Within B g) : GIn K H' u B := ⟨b, w.1, fun l hl => h.wf l (w.2 l hl), by have := w.len; have := h.len; omega⟩
theorem GIn.ke {K : PySem.W.Frag} {H H' : Hp} {v : V} {g : List Log} (h : GIn K H v g) (k : Ke [] H H') : GIn K H' v g := ⟨k.grp Wok.nil h.at_, h.nd, h.wf, h.len⟩
section
variable {P : Program} {w : World} {K : PySem.W.Frag} {mg : Str → Option Value} {base : Heap}
/-! ### stuck_block -/
def spStuck (K : PySem.W.Frag) : Sp := fun vs H Q _ => ∃ v g, vs = [v] ∧ GIn K H v g ∧ Ans K H g Q
theorem sc_SB : FnScope ["logs", "block"] ["logs"] (defScope sStuckBlock) := ⟨rfl, rfl, rfl, by decide +kernel, rfl, by decide +kernel, by decide +kernel⟩
theorem ok_stuck_block (T : Tx K mg) : C8.Cal P w K mg base 8 "stuck_block" (spStuck K) [] := by
  obtain ⟨fd, F⟩ := T.d_stuck_block
  have c1 : C8.Cal P w K mg base 7 "blocks" (spBlocks K) [] := ok_blocks T
  refine mk_cal F T.g_stuck_block sc_SB (fun _ _ _ _ _ _ us hl => match us, hl with | [_], _ => rfl) (fun vs H Q E h => ?_) (fun cdv A outer s H vs Q E hr h => ?_)
  · obtain ⟨v, g, rfl, _⟩ := h
    rfl
  · obtain ⟨v, g, rfl, gi, k⟩ := h
    refine ⟨_, pss_cons (ps_for PassesOwn.never rfl (pi_tup (C8.pe_c c1 hr (Nat.le_refl _) (by rfl) (pa_cons (pv 0) pa_nil))) (pg_name (i := 1) sc_SB.nd rfl (Or.inl rfl))
        (pss_one (ps_if (pt_cmpR op_gt (pe_callB call_len_seq (by rfl) T.b_len PySem.boot_len (pa_cons (pv 1) pa_nil)) pe_int (nomark _)) (pss_one (ps_ret (pv 1))) pss_nil)))
      (pss_one (ps_ret pe_non)), ?_⟩
    refine ⟨_, rfl, v, g, rfl, gi.at_, gi.nd, gi.wf, gi.len, fun p H1 xs bs k1 hq hp bo => ?_⟩
    refine ⟨p, rfl, ⟨xs, hq⟩, for_it walk_tup (fun i σ H2 => (∃ u, σ = [some v, u]) ∧ Ke [] H1 H2 ∧ ∀ B ∈ bs.take i, ¬ 2 ≤ B.length) ⟨⟨none, rfl⟩, Ke.rfl, by simp⟩ (fun i σ H2 _ z => z.2.1.sqt Wok.nil hq) (fun i x σ H2 H3 hi z y => ?_) (fun σ H2 z => ?_)⟩
    · obtain ⟨⟨u, rfl⟩, k2, hb⟩ := z
      obtain ⟨rfl, e1⟩ := y
      obtain ⟨B, e2, a, ys, rfl, hs, hl⟩ := Paired.get hp i x e1
      have hs3 := k2.sqt Wok.nil hs
      have hl3 := k2.logs Wok.nil hl
      refine ⟨_, rfl, a, ys, rfl, .inr hs3, (ys.length : Int), 1, rfl, rfl, _, rfl, ?_⟩
      refine ite2 (fun hc => ?_) (fun hc => ?_)
      · rw [decide_eq_true_eq, hl.length] at hc
        have hm := List.mem_of_getElem? e2
        exact ⟨_, rfl, k.2 _ _ B (k1.trans k2) ⟨a, ys, rfl, hs3, hl3⟩ (bo.fin B hm).1 (bo.stk hm (by omega))⟩
      · rw [decide_eq_true_eq, hl.length] at hc
        refine ⟨⟨_, rfl⟩, k2, fun C hC => ?_⟩
        rw [take_snoc e2] at hC
        rcases List.mem_append.mp hC with h | h
        · exact hb C h
        · rw [List.mem_singleton.mp h]
          omega
    · obtain ⟨⟨u, rfl⟩, k2, hb⟩ := z
      refine k.1 _ (k1.trans k2) (bo.ok fun B hB => hb B ?_)
      rw [hp.length, List.take_length]
      exact hB
/-! ### without -/
def spWithout (K : PySem.W.Frag) : Sp := fun vs H Q _ => ∃ (v : V) (g : List Log) (i : Nat), vs = [v, .int i] ∧ GrpT K H v g ∧ i < g.length ∧ g.length ≤ 60 ∧ ∀ v' H', Ke [] H H' → GrpT K H' v' (g.eraseIdx i) → Q v' H'
theorem sc_Without : FnScope ["logs", "at"] ["logs", "at"] (defScope sWithout) := ⟨rfl, rfl, rfl, by decide +kernel, rfl, by decide +kernel, by decide +kernel⟩
theorem ok_without (T : Tx K mg) : C8.Cal P w K mg base 1 "without" (spWithout K) [] := by
  obtain ⟨fd, F⟩ := T.d_without
  refine mk_cal F T.g_without sc_Without (fun _ _ _ _ _ _ us hl => match us, hl with | [_, _], _ => rfl) (fun vs H Q E h => ?_) (fun cdv A outer s H vs Q E hr h => ?_)
  · obtain ⟨v, g, i, rfl, _⟩ := h
    rfl
  · obtain ⟨v, g, i, rfl, ⟨a, xs, rfl, hq, hp⟩, hi, hz, k⟩ := h
    refine ⟨_, pss_one (ps_ret (pe_op op_catN (pe_slice sl_tupN (pv 0) po_none (po_some (pv 1))) (pe_slice sl_tupN (pv 0) (po_some (pe_op op_add (pv 1) pe_int)) po_none))), ?_⟩
    refine ⟨_, rfl, _, rfl, i, rfl, a, xs, rfl, hq, fun p H1 k1 hp1 => ?_⟩
    refine ⟨_, rfl, _, rfl, (i : Int), 1, rfl, rfl, _, rfl, a, xs, rfl, k1.sqt Wok.nil hq, fun p2 H2 k2 hp2 => ?_⟩
    rw [cut_to] at hp1
    rw [show (some ((i : Int) + 1)) = some ((i + 1 : Nat) : Int) from rfl, cut_from] at hp2
    have hxl := hp.length
    refine ⟨p, p2, xs.take i, xs.drop (i + 1), rfl, rfl, k2.sqt Wok.nil hp1, hp2, by rw [List.length_take, List.length_drop]; omega, fun q H3 k3 hq3 => ?_⟩
    have k13 := (k1.trans k2).trans k3
    refine k _ _ k13 ⟨q, _, rfl, hq3, ?_⟩
    rw [List.eraseIdx_eq_take_drop_succ]
    have hp3 := k13.logs Wok.nil hp
    exact Paired.app (Paired.take i hp3) (Paired.drop (i + 1) hp3)
/-! ### single_group -/
theorem sc_SG : FnScope ["logs", "group", "at", "less"] ["logs"] (defScope sSingleGroup) := ⟨rfl, rfl, rfl, by decide +kernel, rfl, by decide +kernel, by decide +kernel⟩
theorem ok_single_group (T : Tx K mg) : C8.Cal P w K mg base 9 "single_group" (spStuck K) [] := by
  obtain ⟨fd, F⟩ := T.d_single_group
  have c1 : C8.Cal P w K mg base 8 "stuck_block" (spStuck K) [] := ok_stuck_block T
  have c2 : C8.Cal P w K mg base 1 "without" (spWithout K) [] := ok_without T
  refine mk_cal F T.g_single_group sc_SG (fun _ _ _ _ _ _ us hl => match us, hl with | [_], _ => rfl) (fun vs H Q E h => ?_) (fun cdv A outer s H vs Q E hr h => ?_)
  · obtain ⟨v, g, rfl, _⟩ := h
    rfl
  · obtain ⟨v, g, rfl, gi, k⟩ := h
    refine ⟨_, pss_cons (ps_par (i := 1) (j := 2) rfl sc_SG.nd rfl rfl (by decide) rfl rfl (pa_cons (C8.pe_c c1 hr (Nat.le_refl _) (by rfl) (pa_cons (pv 0) pa_nil)) (pa_cons pe_int pa_nil)) (by rfl))
      (pss_cons (ps_while PassesOwn.never (PW.pt (pw_and (pt_cmp (pc_notN (pv 1))) (pw_and1 (pt_cmpR op_lt (pv 2) (pe_callB call_len_seq (by rfl) T.b_len PySem.boot_len (pa_cons (pv 1) pa_nil)) (nomark _)))))
        (pss_cons (ps_set sc_SG.nd (i := 3) rfl (Or.inl rfl) (C8.pe_c c1 hr (Nat.le_refl _) (by rfl) (pa_cons (C8.pe_c c2 hr (by omega) (by rfl) (pa_cons (pv 1) (pa_cons (pv 2) pa_nil))) pa_nil)))
        (pss_one (ps_if (pt_cmp (pc_isN (pv 3))) (pss_one (ps_aug sc_SG.nd (i := 2) rfl (Or.inl rfl) pe_int ip_add)) (pss_one (ps_set sc_SG.nd (i := 1) rfl (Or.inl rfl) (pv 3)))))))
      (pss_one (ps_ret (pv 1)))), ?_⟩
    have W : ∀ (m : Nat) (σ : L2.St) (H1 : Hp), Prop := fun _ _ _ => True
    refine ⟨_, rfl, v, g, rfl, gi, ⟨fun H1 k1 hok => ⟨_, _, rfl, ?_⟩, fun H1 gv B k1 hB hw hs => ⟨_, _, rfl, ?_⟩⟩⟩
    · refine ⟨fun m σ H2 => σ = [some v, some .non, some (.int 0), none] ∧ H2 = H1, ⟨0, rfl, rfl⟩, ?_⟩
      rintro m σ H2 ⟨rfl, rfl⟩
      refine ⟨_, rfl, false, rfl, ?_⟩
      refine iteF ?_
      refine iteF ?_
      exact ⟨_, rfl, k.1 _ k1 hok⟩
    · refine ⟨fun m σ H2 => ∃ gv B i u, σ = [some v, some gv, some (.int (i : Nat)), u] ∧ Ke [] H H2 ∧ GrpT K H2 gv B ∧ Within B g ∧ Stk B ∧ 2 * B.length - i = m, ⟨_, gv, B, 0, none, rfl, k1, hB, hw, hs, rfl⟩, ?_⟩
      rintro m σ H2 ⟨gv, B, i, u, rfl, k2, hB, hw, hs, rfl⟩
      obtain ⟨a, xs, rfl, hq, hp⟩ := id hB
      have hz := hw.len
      have hgl := gi.len
      refine ⟨_, rfl, true, rfl, ?_⟩
      refine iteT ?_
      refine ⟨_, rfl, _, rfl, a, xs, rfl, .inr hq, (i : Int), (xs.length : Int), rfl, rfl, _, rfl, ?_⟩
      rw [hp.length]
      refine ite2 (fun hc => ?_) (fun hc => ?_)
      · rw [decide_eq_true_eq] at hc
        have hil : i < B.length := by omega
        refine ⟨fun σ' H' => ∃ m', m' < 2 * B.length - i ∧ _, fun _ _ h => h, ?_⟩
        refine ⟨_, rfl, _, rfl, _, B, i, rfl, hB, hil, by omega, fun v' H3 k3 hv' => ?_⟩
        have hwe : Within (B.eraseIdx i) B := Within.sub (List.eraseIdx_sublist ..) hw.1
        refine ⟨v', _, rfl, (gi.ke (k2.trans k3)).within hv' (hwe.trans hw), fun H4 k4 hok => ?_, fun H4 lv C k4 hC hCw hCs => ?_⟩
        · refine ⟨_, rfl, true, rfl, ?_⟩
          refine iteT ?_
          refine ⟨_, rfl, (i : Int), 1, rfl, rfl, ?_⟩
          exact ⟨2 * B.length - (i + 1), by omega, _, B, i + 1, _, rfl, (k2.trans k3).trans k4, (k3.trans k4).grp Wok.nil hB, hw, hs, rfl⟩
        · obtain ⟨b, ys, rfl, hC1, hC2⟩ := id hC
          refine ⟨_, rfl, false, rfl, ?_⟩
          refine iteF ?_
          refine ⟨_, rfl, ?_⟩
          have h1 := hCw.len
          rw [List.length_eraseIdx_of_lt hil] at h1
          exact ⟨2 * C.length - i, by omega, _, C, i, _, rfl, (k2.trans k3).trans k4, hC, (hCw.trans hwe).trans hw, hCs, rfl⟩
      · exact ⟨_, rfl, k.2 _ _ B k2 hB hw hs⟩
/-! ### check_reader -/
def spCheck (K : PySem.W.Frag) : Sp := fun vs H Q _ => ∃ v g, vs = [v] ∧ GIn K H v g ∧ Ok g ∧ ∀ H', Ke [] H H' → Q .non H'
theorem sc_CR : FnScope ["logs", "group"] ["logs"] (defScope sCheckReader) := ⟨rfl, rfl, rfl, by decide +kernel, rfl, by decide +kernel, by decide +kernel⟩
theorem ok_check (T : Tx K mg) : C8.Cal P w K mg base 10 "check_reader" (spCheck K) [] := by
  obtain ⟨fd, F⟩ := T.d_check_reader
  have c1 : C8.Cal P w K mg base 9 "single_group" (spStuck K) [] := ok_single_group T
  refine mk_cal F T.g_check_reader sc_CR (fun _ _ _ _ _ _ us hl => match us, hl with | [_], _ => rfl) (fun vs H Q E h => ?_) (fun cdv A outer s H vs Q E hr h => ?_)
  · obtain ⟨v, g, rfl, _⟩ := h
    rfl
  · obtain ⟨v, g, rfl, gi, ok, k⟩ := h
    refine ⟨_, pss_cons (ps_set sc_CR.nd (i := 1) rfl (Or.inl rfl) (C8.pe_c c1 hr (Nat.le_refl _) (by rfl) (pa_cons (pv 0) pa_nil)))
      (pss_one (ps_if (pt_cmp (pc_notN (pv 1))) (pss_one ps_never) pss_nil)), ?_⟩
    refine ⟨_, rfl, v, g, rfl, gi, fun H1 k1 _ => ⟨_, rfl, false, rfl, ?_⟩, fun H1 lv C k1 hC hCw hCs => ?_⟩
    · refine iteF ?_
      exact k _ k1
    · exact absurd hCs (ok C hCw.2)
/-! ### with_log, against: a log that is not there -/
def spNew (K : PySem.W.Frag) (A : Hp → List Log → VK → Prop) : Sp := fun vs H Q _ => ∃ v g u l, vs = [v, u] ∧ GIn K H v g ∧ Ok g ∧ LogV K H u l ∧ WfLog l ∧ l ∉ g ∧ g.length ≤ 50 ∧ A H (g ++ [l]) Q
def Grown (K : PySem.W.Frag) (H : Hp) (g : List Log) (Q : VK) : Prop := ∀ H' v g', Ke [] H H' → GrpT K H' v g' → g'.Perm g → Q v H'
theorem sc_WL : FnScope ["logs", "log"] ["logs", "log"] (defScope sWithLog) := ⟨rfl, rfl, rfl, by decide +kernel, rfl, by decide +kernel, by decide +kernel⟩
theorem ok_with_log (T : Tx K mg) : C8.Cal P w K mg base 1 "with_log" (spNew K (Grown K)) [] := by
  obtain ⟨fd, F⟩ := T.d_with_log
  refine mk_cal F T.g_with_log sc_WL (fun _ _ _ _ _ _ us hl => match us, hl with | [_, _], _ => rfl) (fun vs H Q E h => ?_) (fun cdv A outer s H vs Q E hr h => ?_)
  · obtain ⟨v, g, u, l, rfl, _⟩ := h
    rfl
  · obtain ⟨v, g, u, l, rfl, gi, hok, hl, wl, hn, hz, k⟩ := h
    obtain ⟨a, xs, rfl, hq, hp⟩ := gi.at_
    refine ⟨_, pss_one (ps_ret (pe_ifExp (pt_cmpR (op_inS hr) (pv 1) (pv 0) rfl) (pv 0)
      (pe_callTy call_tupF (by rfl) T.b_tuple boot_tuple (pa_cons (pe_callB (cr_sortedG hr) (by rfl) T.b_sorted boot_sorted (pa_cons (pe_op op_catN (pv 0) (pe_tup (pa_cons (pv 1) pa_nil))) pa_nil)) pa_nil)))), ?_⟩
    refine ⟨_, rfl, _, rfl, eL l, g.map eL, hl.dp, .inr gi.at_.dp, lay_eL wl, lay_logs gi.wf, by have := depth_eL l; omega, false, ?_, ?_⟩
    · show V.bl ((g.map eL).any fun z => PyData.eqv z (eL l)) = V.bl false
      rw [any_eL, decide_eq_false hn]
    refine iteF ?_
    refine ⟨_, rfl, _, rfl, by rw [sizeLine_eq]; exact Nat.le_of_ble_eq_true rfl, fun t ht => ?_⟩
    have k1 : Ke [] H (upd H t (.tup [u])) := Ke.new ht
    have hxl := hp.length
    refine ⟨a, t, xs, [u], rfl, rfl, k1.sqt Wok.nil hq, SqT.of upd_same, by rw [List.length_singleton]; omega, fun p H2 k2 hp2 => ?_⟩
    have k12 := k1.trans k2
    refine ⟨p, _, g ++ [l], rfl, .inr hp2, Paired.app (k12.logs Wok.nil hp) (.cons (k12.log Wok.nil hl) .nil), fun q ys g' hq0 hys pm _ => ?_⟩
    refine ⟨q, ys, rfl, SqL.of upd_same, fun r hr0 o ho => ?_⟩
    have k3 := (Ke.new (W := []) (o := .lst ys) hq0).trans (Ke.new (o := .frz o (.tup ys)) hr0)
    exact k _ _ g' (k12.trans k3) ⟨r, ys, rfl, frz_sqt, k3.logs Wok.nil hys⟩ pm
theorem sc_Ag : FnScope ["logs", "log"] ["logs", "log"] (defScope sAgainst) := ⟨rfl, rfl, rfl, by decide +kernel, rfl, by decide +kernel, by decide +kernel⟩
theorem Ans.of {H H' : Hp} {g h : List Log} {Q : VK} (a : Ans K H g Q) (k : Ke [] H H') (p : h.Perm g) : Ans K H' h Q :=
  ⟨fun H1 k1 o => a.1 H1 (k.trans k1) (o.perm p.symm), fun H1 v B k1 hB hw hs => a.2 H1 v B (k.trans k1) hB ⟨hw.1, fun x hx => p.mem_iff.mp (hw.2 x hx)⟩ hs⟩
theorem GIn.grown {H H' : Hp} {v v' : V} {g g' : List Log} {l : Log} (gi : GIn K H v g) (wl : WfLog l) (hn : l ∉ g) (hz : g.length ≤ 50) (h : GrpT K H' v' g') (p : g'.Perm (g ++ [l])) : GIn K H' v' g' := by
  refine ⟨h, p.nodup_iff.mpr (List.nodup_append.mpr ⟨gi.nd, by simp, fun a ha b hb e => hn ?_⟩), fun m hm => ?_, by rw [p.length_eq, List.length_append, List.length_singleton]; omega⟩
  · rw [← List.mem_singleton.mp hb, ← e]
    exact ha
  · rcases List.mem_append.mp (p.mem_iff.mp hm) with h | h
    · exact gi.wf m h
    · rw [List.mem_singleton.mp h]
      exact wl
theorem ok_against (T : Tx K mg) : C8.Cal P w K mg base 11 "against" (spNew K (Ans K)) [] := by
  obtain ⟨fd, F⟩ := T.d_against
  have c1 : C8.Cal P w K mg base 10 "check_reader" (spCheck K) [] := ok_check T
  have c2 : C8.Cal P w K mg base 1 "with_log" (spNew K (Grown K)) [] := ok_with_log T
  have c3 : C8.Cal P w K mg base 9 "single_group" (spStuck K) [] := ok_single_group T
  refine mk_cal F T.g_against sc_Ag (fun _ _ _ _ _ _ us hl => match us, hl with | [_, _], _ => rfl) (fun vs H Q E h => ?_) (fun cdv A outer s H vs Q E hr h => ?_)
  · obtain ⟨v, g, u, l, rfl, _⟩ := h
    rfl
  · obtain ⟨v, g, u, l, rfl, gi, hok, hl, wl, hn, hz, k⟩ := h
    refine ⟨_, pss_cons (ps_expr (C8.pe_c c1 hr (Nat.le_refl _) (by rfl) (pa_cons (pv 0) pa_nil)))
      (pss_one (ps_ret (C8.pe_c c3 hr (by omega) (by rfl) (pa_cons (C8.pe_c c2 hr (by omega) (by rfl) (pa_cons (pv 0) (pa_cons (pv 1) pa_nil))) pa_nil)))), ?_⟩
    refine ⟨_, rfl, v, g, rfl, gi, hok, fun H1 k1 => ?_⟩
    refine ⟨_, rfl, _, rfl, v, g, u, l, rfl, gi.ke k1, hok, k1.log Wok.nil hl, wl, hn, hz, fun H2 v' g' k2 hg pm => ?_⟩
    exact ⟨v', g', rfl, gi.grown wl hn hz hg pm, k.of (k1.trans k2) pm⟩
end
end RO

/-! text P5 -/
set_option Elab.async false
set_option linter.all false
set_option maxRecDepth 100000
set_option maxHeartbeats 1000000
/-! What the walk asks of the classes. -/
namespace RO
open PySem PySem.Spec PyProof.Rows L2
abbrev aStuck (K : PySem.W.Frag) : Addr := He.ga K "Stuck"
abbrev aRec (K : PySem.W.Frag) : Addr := He.ga K "Recorder"
abbrev aDfl (K : PySem.W.Frag) : Addr := He.dflAt ("Recorder", some "__init__") 0 K
structure Ty (K : PySem.W.Frag) (mg : Str → Option Value) : Prop extends Tx K mg where
  g_Stuck : mg "Stuck" = some (.ref (aStuck K))
  g_ReadError : mg "ReadError" = some (.ref (He.ga K "ReadError"))
  g_Recorder : mg "Recorder" = some (.ref (aRec K))
  s_init : MtD K "Stuck" "__init__" "Stuck.__init__" sStuckInit []
  s_iC : PySem.W.findIn K (.ref (aStuck K)) "__init__" = some (some (.ref (He.ma K (aStuck K) "__init__")))
  s_tI : PySem.W.typeIn K (.ref (He.ma K (aStuck K) "__init__")) = some (.type "function")
  s_ox : OexC K (aStuck K)
  s_ng : PySem.W.findIn K (.ref (aStuck K)) "group" = some none
  s_xf : XfC K (aStuck K)
  s_em : PySem.W.exmOne K (.ref (aStuck K)) (.ref (aStuck K)) = some true
  e_bc : ∃ mc, BaseC K (He.ga K "ReadError") mc
  r_mk : Mk K (aRec K) (He.ma K (aRec K) "__init__")
  r_cls : Cls K (aRec K)
  r_held : NoAttr K (aRec K) "held"
  r_past : NoAttr K (aRec K) "past"
  r_act : Meth K (aRec K) "act" (He.ma K (aRec K) "act")
  r_add : Meth K (aRec K) "add" (He.ma K (aRec K) "add")
  r_drop : Meth K (aRec K) "drop" (He.ma K (aRec K) "drop")
  r_logs : Meth K (aRec K) "logs" (He.ma K (aRec K) "logs")
  r_lenF : PySem.W.findIn K (.ref (aRec K)) "__len__" = some (some (.ref (He.ma K (aRec K) "__len__")))
  r_lenT : PySem.W.typeIn K (.ref (He.ma K (aRec K) "__len__")) = some (.type "function")
  m_init : MtD K "Recorder" "__init__" "Recorder.__init__" sRecInit [.ref (aDfl K)]
  m_len : MtD K "Recorder" "__len__" "Recorder.__len__" sRecLen []
  m_act : MtD K "Recorder" "act" "Recorder.act" sRecAct []
  m_add : MtD K "Recorder" "add" "Recorder.add" sRecAdd []
  m_drop : MtD K "Recorder" "drop" "Recorder.drop" sRecDrop []
  m_logs : MtD K "Recorder" "logs" "Recorder.logs" sRecLogs []
  r_dfl : ∀ H, SqT K H (aDfl K) []
end RO

/-! text D9 -/
set_option Elab.async false
set_option linter.all false
set_option maxRecDepth 100000
set_option maxHeartbeats 1000000
namespace RO
open PySem PySem.Spec PyProof.Rows L2
section
variable {P : Program} {w : World} {K : PySem.W.Frag} {mg : Str → Option Value} {base : Heap}
/-! ### Stuck.__init__ -/
def spSI (K : PySem.W.Frag) : Sp := fun vs H Q _ => ∃ a g, vs = [.ref a, g] ∧ H a = some (exo a (aStuck K) none) ∧ ∀ d, H d = none → d ≠ a → Q .non (upd (upd H d (exd d [("group", g)])) a (exo a (aStuck K) (some d)))
theorem sc_SI : FnScope ["self", "group"] ["self", "group"] (defScope sStuckInit) := ⟨rfl, rfl, rfl, by decide +kernel, rfl, by decide +kernel, by decide +kernel⟩
theorem ok_SI (T : Ty K mg) : ∃ fd, FnOk P w K mg base CX0 1 (He.ma K (aStuck K) "__init__") fd ["self", "group"] (spSI K) ∧ Binds K fd ["self", "group"] [] := by
  obtain ⟨fd, F⟩ := T.s_init
  obtain ⟨mc, B⟩ := T.e_bc
  refine ⟨fd, F.ok sc_SI (fun vs H Q E h => ?_) (fun cdv A outer s H vs Q E hr h => ?_), F.bindsN fun _ _ _ _ _ _ us hl => match us, hl with | [_, _], _ => rfl⟩
  · obtain ⟨a, g, rfl, _⟩ := h
    rfl
  · obtain ⟨a, g, rfl, ha, k⟩ := h
    refine ⟨_, PSs.nox (pss_cons (ps_expr (pe_baseinit (by rfl) T.g_ReadError B (pa_cons (pv 0) (pa_cons pe_str pa_nil)))) (pss_one (ps_ost (pv 0) (pv 1)))), ?_⟩
    refine ⟨_, rfl, a, aStuck K, _, rfl, ?_, T.s_ox, ha, ?_⟩
    · simp
    · exact ⟨_, rfl, _, rfl, a, aStuck K, rfl, T.s_ox, T.s_ng, .inl ⟨ha, fun d hd hn => k d hd hn⟩⟩
/-! ### grown -/
def spGrown (K : PySem.W.Frag) : Sp := fun vs H Q E => ∃ v g u l, vs = [v, u] ∧ GIn K H v g ∧ Ok g ∧ LogV K H u l ∧ WfLog l ∧ l ∉ g ∧ g.length ≤ 50 ∧
  (∀ H' v' g', Ke [] H H' → GrpT K H' v' g' → g'.Perm (g ++ [l]) → Ok (g ++ [l]) → Q v' H') ∧
  ∀ H' d v' B, Ke [] H H' → H' d = some (.xd [("group", v')]) → GrpT K H' v' B → Within B (g ++ [l]) → Stk B → E (.ref (aStuck K)) (some d) H'
theorem sc_Gr : FnScope ["held", "log", "group"] ["held", "log"] (defScope sGrown) := ⟨rfl, rfl, rfl, by decide +kernel, rfl, by decide +kernel, by decide +kernel⟩
theorem ok_grown (T : Ty K mg) : ∃ fd, FnOk P w K mg base (L2.CX P w) 12 (He.ga K "grown") fd ["held", "log"] (spGrown K) ∧ Binds K fd ["held", "log"] [] ∧ PySem.W.keepIn K (.ref (He.ga K "grown")) = true := by
  obtain ⟨fd, F⟩ := T.d_grown
  have c1 : C8.Cal P w K mg base 4 "is_log" (spForm K) [] := ok_is_log T.toTx
  have c2 : C8.Cal P w K mg base 11 "against" (spNew K (Ans K)) [] := ok_against T.toTx
  obtain ⟨fdI, FI, BI⟩ := ok_SI (P := P) (w := w) (base := base) T
  refine ⟨fd, F.ok sc_Gr (fun vs H Q E h => ?_) (fun cdv A outer s H vs Q E hr h => ?_), F.bindsN fun _ _ _ _ _ _ us hl => match us, hl with | [_, _], _ => rfl, F.kp⟩
  · obtain ⟨v, g, u, l, rfl, _⟩ := h
    rfl
  · obtain ⟨v, g, u, l, rfl, gi, hok, hl, wl, hn, hz, kQ, kE⟩ := h
    refine ⟨_, pss_cons (ps_if (pt_not (pt_val (C8.pe_c c1 hr (by omega) (by rfl) (pa_cons (pv 1) pa_nil)))) (pss_one ps_never) pss_nil)
      (pss_cons (ps_if (pt_cmpR (op_inS hr) (pv 1) (pv 0) rfl) (pss_one (ps_ret (pv 0))) pss_nil)
      (pss_cons (ps_if (pt_cmpR op_eq (pe_callB call_len_seq (by rfl) T.b_len PySem.boot_len (pa_cons (pv 0) pa_nil)) (pgi (by rfl) T.c_MOST_LOGS) (nomark _)) (pss_one ps_never) pss_nil)
      (pss_cons (ps_set sc_Gr.nd (i := 2) rfl (Or.inl rfl) (C8.pe_c c2 hr (by omega) (by rfl) (pa_cons (pv 0) (pa_cons (pv 1) pa_nil))))
      (pss_cons (ps_if (pt_cmp (pc_notN (pv 2))) (pss_one (ps_raise rfl (takes_of rfl rfl rfl rfl) (pmk_oex T.s_ox T.s_iC T.s_tI FI (hr.mono (by omega)) BI .nil pass0 (by rfl) T.g_Stuck (pa_cons (pv 2) pa_nil)))) pss_nil)
      (pss_one (ps_ret (pe_callTy call_tupF (by rfl) T.b_tuple boot_tuple (pa_cons (pe_callB (cr_sortedG hr) (by rfl) T.b_sorted boot_sorted (pa_cons (pe_op op_catN (pv 0) (pe_tup (pa_cons (pv 1) pa_nil))) pa_nil)) pa_nil)))))))), ?_⟩
    refine ⟨_, rfl, u, l, rfl, hl, wl, fun H1 k1 => ⟨true, rfl, ?_⟩⟩
    refine iteF ?_
    have gi1 := gi.ke k1
    have hl1 := k1.log Wok.nil hl
    obtain ⟨a, xs, rfl, hq, hp⟩ := id gi1.at_
    refine ⟨_, rfl, _, rfl, eL l, g.map eL, hl1.dp, .inr gi1.at_.dp, lay_eL wl, lay_logs gi.wf, by have := depth_eL l; omega, false, ?_, ?_⟩
    · show V.bl ((g.map eL).any fun z => PyData.eqv z (eL l)) = V.bl false
      rw [any_eL, decide_eq_false hn]
    refine iteF ?_
    have hxl := hp.length
    refine ⟨_, rfl, a, xs, rfl, .inr hq, rfl, false, ?_, ?_⟩
    · congr 1
      exact decide_eq_false fun z => by
        have := V.int.inj z
        omega
    refine iteF ?_
    refine ⟨_, rfl, _, rfl, _, g, u, l, rfl, gi1, hok, hl1, wl, hn, hz, fun H2 k2 ho => ⟨_, rfl, false, rfl, ?_⟩, fun H2 lv B k2 hB hw hs => ?_⟩
    · refine iteF ?_
      have k12 := k1.trans k2
      refine ⟨_, rfl, _, rfl, by rw [sizeLine_eq]; exact Nat.le_of_ble_eq_true rfl, fun t ht => ?_⟩
      have k3 : Ke [] H2 (upd H2 t (.tup [u])) := Ke.new ht
      have k23 := k2.trans k3
      refine ⟨a, t, xs, [u], rfl, rfl, k23.sqt Wok.nil hq, SqT.of upd_same, by rw [List.length_singleton]; omega, fun p H4 k4 hp4 => ?_⟩
      have k24 := k23.trans k4
      refine ⟨p, _, g ++ [l], rfl, .inr hp4, Paired.app (k24.logs Wok.nil hp) (.cons (k24.log Wok.nil hl1) .nil), fun q ys g' hq0 hys pm _ => ?_⟩
      refine ⟨q, ys, rfl, SqL.of upd_same, fun r hr0 o ho' => ?_⟩
      have k5 := (Ke.new (W := []) (o := .lst ys) hq0).trans (Ke.new (o := .frz o (.tup ys)) hr0)
      exact kQ _ _ g' ((k1.trans k24).trans k5) ⟨r, ys, rfl, frz_sqt, k5.logs Wok.nil hys⟩ pm ho
    · obtain ⟨b, ys, rfl, hb1, hb2⟩ := id hB
      refine ⟨_, rfl, true, rfl, ?_⟩
      refine iteT ?_
      refine ⟨_, rfl, by simp, fun e he => ?_⟩
      refine ⟨e, .ref b, rfl, upd_same, fun d hd hde => ⟨rfl, d, [("group", .ref b)], upd_same, ?_, ?_, ?_⟩⟩
      · rw [upd_ne hde, upd_same]
      · rw [upd_ne hde] at hd
        exact hd
      · rw [upd_ne hde] at hd
        have kk : Ke [] H2 (upd (del (upd (upd (upd H2 e (exo e (aStuck K) none)) d (exd d [("group", .ref b)])) e (exo e (aStuck K) (some d))) e) d (.xd [("group", .ref b)])) := by
          intro c o ec _
          have h1 : c ≠ e := ne_of_none ec he
          have h2 : c ≠ d := ne_of_none ec hd
          rw [upd_ne h2, del_ne h1, upd_ne h1, upd_ne h2, upd_ne h1]
          exact ec
        exact kE _ d (.ref b) B ((k1.trans k2).trans kk) upd_same (kk.grp Wok.nil hB) hw hs
end
end RO

/-! text D10 -/
set_option Elab.async false
set_option linter.all false
set_option maxRecDepth 100000
set_option maxHeartbeats 1000000
namespace RO
open PySem PySem.Spec PyProof.Rows L2
/-- the recorder at p, its past at q, holding g -/
structure RecV (K : PySem.W.Frag) (H : Hp) (p q : Addr) (n : Nat) (g : List Log) : Prop where
  ex : ∃ dx v ps, H p = some (.ins (aRec K) dx [("held", v), ("past", .ref q)]) ∧ H q = some (.lst ps) ∧ ps.length ≤ n ∧ GIn K H v g
theorem RecV.ne {K : PySem.W.Frag} {H : Hp} {p q : Addr} {n : Nat} {g : List Log} (r : RecV K H p q n g) : p ≠ q := by
  obtain ⟨dx, v, ps, h1, h2, _⟩ := r.ex
  rintro rfl
  rw [h1] at h2
  cases h2
theorem RecV.wok {K : PySem.W.Frag} {H : Hp} {p q : Addr} {n : Nat} {g : List Log} (r : RecV K H p q n g) : Wok [p, q] H := by
  obtain ⟨dx, v, ps, h1, h2, _⟩ := r.ex
  intro b hb
  rcases List.mem_cons.mp hb with rfl | hb
  · exact mut_ins h1
  · rw [List.mem_singleton.mp hb]
    exact mut_lst h2
theorem GIn.keW {K : PySem.W.Frag} {W : List Addr} {H H' : Hp} {v : V} {g : List Log} (h : GIn K H v g) (k : Ke W H H') (w : Wok W H) : GIn K H' v g := ⟨k.grp w h.at_, h.nd, h.wf, h.len⟩
theorem RecV.ke {K : PySem.W.Frag} {W : List Addr} {H H' : Hp} {p q : Addr} {n : Nat} {g : List Log} (r : RecV K H p q n g) (k : Ke W H H') (w : Wok W H) (hp : p ∉ W) (hq : q ∉ W) : RecV K H' p q n g := by
  obtain ⟨dx, v, ps, h1, h2, h3, h4⟩ := r.ex
  exact ⟨dx, v, ps, k _ _ h1 hp, k _ _ h2 hq, h3, h4.keW k w⟩
theorem RecV.ke0 {K : PySem.W.Frag} {H H' : Hp} {p q : Addr} {n : Nat} {g : List Log} (r : RecV K H p q n g) (k : Ke [] H H') : RecV K H' p q n g := r.ke k Wok.nil (by simp) (by simp)
section
variable {P : Program} {w : World} {K : PySem.W.Frag} {mg : Str → Option Value} {base : Heap}
/-! ### Recorder() -/
def spRI (K : PySem.W.Frag) : Sp := fun vs H Q _ => ∃ a e dx, vs = [.ref a, .ref e] ∧ H a = some (.ins (aRec K) dx []) ∧ SqT K H e [] ∧ ∀ H' q, Ke [a] H H' → H q = none → RecV K H' a q 0 [] → Q .non H'
theorem sc_RI : FnScope ["self", "logs"] ["self", "logs"] (defScope sRecInit) := ⟨rfl, rfl, rfl, by decide +kernel, rfl, by decide +kernel, by decide +kernel⟩
theorem ok_RI (T : Ty K mg) : C8.Mak P w K mg base 11 "Recorder" (aRec K) (spRI K) [.ref (aDfl K)] := by
  obtain ⟨fd, F⟩ := T.m_init
  have c1 : C8.Cal P w K mg base 5 "is_logs" (spNoLogs K) [] := ok_is_logs T.toTx
  have c2 : C8.Cal P w K mg base 10 "check_reader" (spCheck K) [] := ok_check T.toTx
  obtain ⟨ds, hds, hb⟩ := F.binds1 (ps := ["self", "logs"]) 1 0 (by simp) rfl (fun T kV doc pm an cdv ct us its h1 h2 => match us, its, h1, h2 with | [_], [_], _, _ => ⟨_, rfl, rfl⟩)
  refine ⟨_, fd, ["self", "logs"], ds, T.r_mk, F.ok sc_RI (fun vs H Q E h => ?_) (fun cdv A outer s H vs Q E hr h => ?_), T.g_Recorder, hb, hds⟩
  · obtain ⟨a, e, dx, rfl, _⟩ := h
    rfl
  · obtain ⟨a, e, dx, rfl, ha, he, k⟩ := h
    refine ⟨_, PSs.nox (pss_cons (ps_if (pt_not (pt_val (C8.pe_c c1 hr (by omega) (by rfl) (pa_cons (pv 1) pa_nil)))) (pss_one ps_never) pss_nil)
      (pss_cons (ps_expr (C8.pe_c c2 hr (by omega) (by rfl) (pa_cons (pv 1) pa_nil)))
      (pss_cons (ps_fld (pv 0) (pv 1) (by rfl)) (pss_one (ps_fld (pv 0) (pe_lst pa_nil) (by rfl)))))), ?_⟩
    refine ⟨_, rfl, e, rfl, he, fun H1 k1 => ⟨true, rfl, ?_⟩⟩
    refine iteF ?_
    have he1 := k1.sqt Wok.nil he
    refine ⟨_, rfl, _, [], rfl, ⟨⟨e, [], rfl, he1, .nil⟩, by simp, by simp, by simp⟩, ok_nil, fun H2 k2 => ?_⟩
    have k12 := k1.trans k2
    have ha2 := k12.same _ _ ha
    refine ⟨_, rfl, _, rfl, a, aRec K, dx, [], rfl, ha2, T.r_cls, T.r_held, by simp, ?_⟩
    refine ⟨Nat.zero_le _, fun q hq => ⟨_, rfl, a, aRec K, dx, [("held", .ref e)], rfl, ?_, T.r_cls, T.r_past, by simp, ?_⟩⟩
    · have : a ≠ q := by
        rintro rfl
        rw [upd_same] at hq
        cases hq
      rw [upd_ne this, upd_same]
      rfl
    · have haq : a ≠ q := by
        rintro rfl
        rw [upd_same] at hq
        cases hq
      have hq2 : H2 q = none := by rw [upd_ne haq.symm] at hq; exact hq
      have kk : Ke [a] H (upd (upd (upd H2 a (.ins (aRec K) dx (putF "held" (.ref e) []))) q (.lst [])) a (.ins (aRec K) dx (putF "past" (.ref q) [("held", .ref e)]))) :=
        ((k12.any.trans (Ke.on (by simp))).trans (Ke.new hq)).trans (Ke.on (by simp))
      refine k _ q kk (k12.same.free hq2) ⟨dx, .ref e, [], by rw [upd_same]; rfl, by rw [upd_ne haq.symm, upd_same], by simp, ⟨⟨e, [], rfl, kk.sqt (Wok.one (mut_ins ha)) he, .nil⟩, by simp, by simp, by simp⟩⟩
/-! ### len(r), r.logs() -/
def spRL (K : PySem.W.Frag) : Sp := fun vs H Q _ => ∃ p q n g, vs = [.ref p] ∧ RecV K H p q n g ∧ Q (.int (g.length : Nat)) H
theorem sc_RL : FnScope ["self"] ["self"] (defScope sRecLen) := ⟨rfl, rfl, rfl, by decide +kernel, rfl, by decide +kernel, by decide +kernel⟩
theorem ok_RL (T : Ty K mg) : ∃ fd, FnOk P w K mg base CX0 1 (He.ma K (aRec K) "__len__") fd ["self"] (spRL K) ∧ Binds K fd ["self"] [] := by
  obtain ⟨fd, F⟩ := T.m_len
  refine ⟨fd, F.ok sc_RL (fun vs H Q E h => ?_) (fun cdv A outer s H vs Q E hr h => ?_), F.bindsN fun _ _ _ _ _ _ us hl => match us, hl with | [_], _ => rfl⟩
  · obtain ⟨p, q, n, g, rfl, _⟩ := h
    rfl
  · obtain ⟨p, q, n, g, rfl, ⟨dx, v, ps, h1, h2, h3, gi⟩, k⟩ := h
    obtain ⟨a, xs, rfl, hq, hp⟩ := gi.at_
    refine ⟨_, PSs.nox (pss_one (ps_ret (pe_callB call_len_seq (by rfl) T.b_len PySem.boot_len (pa_cons (pe_fld (pv 0) (by rfl)) pa_nil)))), ?_⟩
    refine ⟨_, rfl, p, aRec K, dx, _, _, rfl, h1, T.r_cls, T.r_held, rfl, a, xs, rfl, .inr hq, ?_⟩
    rw [hp.length]
    exact k
def spRLogs (K : PySem.W.Frag) : Sp := fun vs H Q _ => ∃ p q n g, vs = [.ref p] ∧ RecV K H p q n g ∧ ∀ v, GIn K H v g → Q v H
theorem sc_RG : FnScope ["self"] ["self"] (defScope sRecLogs) := ⟨rfl, rfl, rfl, by decide +kernel, rfl, by decide +kernel, by decide +kernel⟩
theorem ok_RLogs (T : Ty K mg) : C8.Met P w K mg base 1 (aRec K) "logs" (spRLogs K) [] := by
  obtain ⟨fd, F⟩ := T.m_logs
  refine ⟨_, fd, ["self"], [], T.r_cls, T.r_logs, F.ok sc_RG (fun vs H Q E h => ?_) (fun cdv A outer s H vs Q E hr h => ?_), F.bindsN fun _ _ _ _ _ _ us hl => match us, hl with | [_], _ => rfl, .nil⟩
  · obtain ⟨p, q, n, g, rfl, _⟩ := h
    rfl
  · obtain ⟨p, q, n, g, rfl, ⟨dx, v, ps, h1, h2, h3, gi⟩, k⟩ := h
    refine ⟨_, PSs.nox (pss_one (ps_ret (pe_fld (pv 0) (by rfl)))), ?_⟩
    exact ⟨_, rfl, p, aRec K, dx, _, _, rfl, h1, T.r_cls, T.r_held, rfl, k v gi⟩
/-! ### act -/
def spAct (K : PySem.W.Frag) : Sp := fun vs H Q _ => ∃ p q n g v g', vs = [.ref p, v] ∧ RecV K H p q n g ∧ n ≤ 1000 ∧ GIn K H v g' ∧ ∀ H', Ke [p, q] H H' → RecV K H' p q (n + 1) g' → Q (.int ((g'.length : Int) - (g.length : Int))) H'
theorem sc_Act : FnScope ["self", "held", "more"] ["self", "held"] (defScope sRecAct) := ⟨rfl, rfl, rfl, by decide +kernel, rfl, by decide +kernel, by decide +kernel⟩
theorem ok_act (T : Ty K mg) : C8.Met P w K mg base 1 (aRec K) "act" (spAct K) [] := by
  obtain ⟨fd, F⟩ := T.m_act
  refine ⟨_, fd, ["self", "held"], [], T.r_cls, T.r_act, F.ok sc_Act (fun vs H Q E h => ?_) (fun cdv A outer s H vs Q E hr h => ?_), F.bindsN fun _ _ _ _ _ _ us hl => match us, hl with | [_, _], _ => rfl, .nil⟩
  · obtain ⟨p, q, n, g, v, g', rfl, _⟩ := h
    rfl
  · obtain ⟨p, q, n, g, v, g', rfl, rv, hn, gi', k⟩ := h
    have hne := rv.ne
    have hw := rv.wok
    obtain ⟨dx, v0, ps, h1, h2, h3, gi⟩ := rv.ex
    obtain ⟨a, xs, rfl, hq, hp⟩ := id gi.at_
    obtain ⟨a', xs', rfl, hq', hp'⟩ := id gi'.at_
    refine ⟨_, PSs.nox (pss_cons (ps_set sc_Act.nd (i := 2) rfl (Or.inl rfl) (pe_op op_sub (pe_callB call_len_seq (by rfl) T.b_len PySem.boot_len (pa_cons (pv 1) pa_nil)) (pe_callB call_len_seq (by rfl) T.b_len PySem.boot_len (pa_cons (pe_fld (pv 0) (by rfl)) pa_nil))))
      (pss_cons (ps_expr (pe_bm PySem.F.plainAttrs_list PySem.F.slot_list_append PySem.F.type_list_append mt_append (pe_fld (pv 0) (by rfl)) (pa_cons (pe_fld (pv 0) (by rfl)) pa_nil)))
      (pss_cons (ps_fld (pv 0) (pv 1) (by rfl)) (pss_one (ps_ret (pv 2)))))), ?_⟩
    refine ⟨_, rfl, a', xs', rfl, .inr hq', _, rfl, p, aRec K, dx, _, _, rfl, h1, T.r_cls, T.r_held, rfl, a, xs, rfl, .inr hq, (xs'.length : Int), (xs.length : Int), rfl, rfl, ?_⟩
    refine ⟨_, rfl, p, aRec K, dx, _, _, rfl, h1, T.r_cls, T.r_past, rfl, .inl ⟨rfl, _, SqL.of h2⟩, _, rfl, p, aRec K, dx, _, _, rfl, h1, T.r_cls, T.r_held, rfl, q, ps, _, rfl, rfl, h2, by rw [sizeLine_eq]; omega, ?_⟩
    have h1' : (upd H q (.lst (ps ++ [V.ref a]))) p = some (.ins (aRec K) dx [("held", .ref a), ("past", .ref q)]) := by rw [upd_ne hne]; exact h1
    refine ⟨_, rfl, _, rfl, p, aRec K, dx, _, rfl, h1', T.r_cls, T.r_held, by simp, ?_⟩
    refine ⟨_, rfl, ?_⟩
    rw [hp.length, hp'.length]
    have kk : Ke [p, q] H (upd (upd H q (.lst (ps ++ [V.ref a]))) p (.ins (aRec K) dx (putF "held" (.ref a') [("held", .ref a), ("past", .ref q)]))) := (Ke.on (by simp)).trans (Ke.on (by simp))
    exact k _ kk ⟨dx, .ref a', ps ++ [V.ref a], by rw [upd_same]; rfl, by rw [upd_ne hne.symm, upd_same], by simp; omega, gi'.keW kk hw⟩
end
end RO

/-! text D11 -/
set_option Elab.async false
set_option linter.all false
set_option maxRecDepth 100000
set_option maxHeartbeats 1000000
namespace RO
open PySem PySem.Spec PyProof.Rows L2
section
variable {P : Program} {w : World} {K : PySem.W.Frag} {mg : Str → Option Value} {base : Heap}
/-! ### add -/
def spAdd (K : PySem.W.Frag) : Sp := fun vs H Q E => ∃ p q n g u l, vs = [.ref p, u] ∧ RecV K H p q n g ∧ n ≤ 1000 ∧ Ok g ∧ LogV K H u l ∧ WfLog l ∧ l ∉ g ∧ g.length ≤ 50 ∧
  (∀ H' g', Ke [p, q] H H' → RecV K H' p q (n + 1) g' → g'.Perm (g ++ [l]) → Ok (g ++ [l]) → Q (.bl true) H') ∧
  ∀ H' d v' B, Ke [] H H' → H' d = some (.xd [("group", v')]) → GrpT K H' v' B → Within B (g ++ [l]) → Stk B → E (.ref (aStuck K)) (some d) H'
theorem sc_Add : FnScope ["self", "log"] ["self", "log"] (defScope sRecAdd) := ⟨rfl, rfl, rfl, by decide +kernel, rfl, by decide +kernel, by decide +kernel⟩
theorem ok_add (T : Ty K mg) : ∃ fd, FnOk P w K mg base (L2.CX P w) 13 (He.ma K (aRec K) "add") fd ["self", "log"] (spAdd K) ∧ Binds K fd ["self", "log"] [] := by
  obtain ⟨fd, F⟩ := T.m_add
  obtain ⟨fdG, FG, BG, kG⟩ := ok_grown (P := P) (w := w) (base := base) T
  have c1 : C8.Met P w K mg base 1 (aRec K) "act" (spAct K) [] := ok_act T
  refine ⟨fd, F.ok sc_Add (fun vs H Q E h => ?_) (fun cdv A outer s H vs Q E hr h => ?_), F.bindsN fun _ _ _ _ _ _ us hl => match us, hl with | [_, _], _ => rfl⟩
  · obtain ⟨p, q, n, g, u, l, rfl, _⟩ := h
    rfl
  · obtain ⟨p, q, n, g, u, l, rfl, rv, hn, ho, hl, wl, hnl, hz, kQ, kE⟩ := h
    obtain ⟨dx, v, ps, h1, h2, h3, gi⟩ := rv.ex
    refine ⟨_, pss_one (ps_ret (pe_cmpR op_eq (C8.pe_mt c1 hr (by omega) (pv 0) (pa_cons (pe_call FG hr (by rfl) T.g_grown kG BG .nil (passes_call (E := E) (takes_of rfl rfl rfl rfl) (fun _ _ _ _ h => h)) (pa_cons (pe_fld (pv 0) (by rfl)) (pa_cons (pv 1) pa_nil))) pa_nil)) pe_int (nomark _))), ?_⟩
    refine ⟨_, rfl, p, dx, _, rfl, h1, rfl, ?_⟩
    refine ⟨_, rfl, p, aRec K, dx, _, _, rfl, h1, T.r_cls, T.r_held, rfl, _, rfl, v, g, u, l, rfl, gi, ho, hl, wl, hnl, hz, fun H1 v' g' k1 hg pm o => ?_, fun H1 d v' B k1 hd hB hw hs => kE H1 d v' B k1 hd hB hw hs⟩
    refine ⟨p, q, n, g, v', g', rfl, rv.ke0 k1, hn, gi.grown wl hnl hz hg pm, fun H2 k2 rv2 => ⟨rfl, ?_⟩⟩
    have e : ((g'.length : Int) - (g.length : Int)) = 1 := by
      rw [pm.length_eq, List.length_append, List.length_singleton]
      omega
    rw [e]
    exact kQ H2 g' (k1.any.trans k2) rv2 pm o
/-! ### drop -/
def spDrop (K : PySem.W.Frag) : Sp := fun vs H Q _ => ∃ p q n g u l, vs = [.ref p, u] ∧ RecV K H p q n g ∧ n ≤ 1000 ∧ LogV K H u l ∧ WfLog l ∧ l ∈ g ∧ ∀ H', Ke [p, q] H H' → RecV K H' p q (n + 1) (g.filter fun m => !decide (m = l)) → Q .non H'
theorem sc_Drop : FnScope ["self", "log", "other"] ["self", "log"] (defScope sRecDrop) := ⟨rfl, rfl, rfl, by decide +kernel, rfl, by decide +kernel, by decide +kernel⟩
theorem ok_drop (T : Ty K mg) : C8.Met P w K mg base 5 (aRec K) "drop" (spDrop K) [] := by
  obtain ⟨fd, F⟩ := T.m_drop
  have c1 : C8.Met P w K mg base 1 (aRec K) "act" (spAct K) [] := ok_act T
  have c2 : C8.Cal P w K mg base 4 "is_log" (spForm K) [] := ok_is_log T.toTx
  refine ⟨_, fd, ["self", "log"], [], T.r_cls, T.r_drop, F.ok sc_Drop (fun vs H Q E h => ?_) (fun cdv A outer s H vs Q E hr h => ?_), F.bindsN fun _ _ _ _ _ _ us hl => match us, hl with | [_, _], _ => rfl, .nil⟩
  · obtain ⟨p, q, n, g, u, l, rfl, _⟩ := h
    rfl
  · obtain ⟨p, q, n, g, u, l, rfl, rv, hn, hl, wl, hm, k⟩ := h
    obtain ⟨dx, v, ps, h1, h2, h3, gi⟩ := rv.ex
    refine ⟨_, PSs.nox (pss_cons (ps_if (PW.pt (pw_or (pt_not (pt_val (C8.pe_c c2 hr (by omega) (by rfl) (pa_cons (pv 1) pa_nil)))) (pw_or1 (pt_cmpR (op_notInS hr) (pv 1) (pe_fld (pv 0) (by rfl)) rfl)))) (pss_one ps_never) pss_nil)
      (pss_one (ps_expr (C8.pe_mt c1 hr (by omega) (pv 0) (pa_cons (pe_callTy call_tupF (by rfl) T.b_tuple boot_tuple (pa_cons
        (pe_lc (own := [("other", 2)]) (g := gName 2) (tt := tTest (tOp (rEqM K true) (tVar 2) (tVar 1))) rfl sc_Drop.nd (pi_tup (pe_fld (pv 0) (by rfl)))
          (blkOk_by (own := [("other", 2)]) (N := ["self", "log", "other"]) (sc := defScope sRecDrop) (by decide +kernel)) (fun _ _ _ _ _ => pg_name (i := 2) sc_Drop.nd rfl (Or.inl rfl))
          (fun _ _ _ _ _ => pts_one (pt_cmpR (op_neM hr) (pv 2) (pv 1) (nomark _))) (fun _ _ _ _ _ => pv 2)) pa_nil)) pa_nil))))), ?_⟩
    refine ⟨_, rfl, u, l, rfl, hl, wl, fun H1 k1 => ⟨true, rfl, ?_⟩⟩
    refine iteF ?_
    have rv1 := rv.ke0 k1
    have gi1 := gi.ke k1
    have hl1 := k1.log Wok.nil hl
    have h11 := k1.same _ _ h1
    refine ⟨_, rfl, _, rfl, p, aRec K, dx, _, _, rfl, h11, T.r_cls, T.r_held, rfl, eL l, g.map eL, hl1.dp, .inr gi1.at_.dp, lay_eL wl, lay_logs gi.wf, by have := depth_eL l; omega, false, ?_, ?_⟩
    · show V.bl (!(g.map eL).any fun z => PyData.eqv z (eL l)) = V.bl false
      rw [any_eL, decide_eq_true hm]
      rfl
    refine iteF ?_
    obtain ⟨a, xs, rfl, hq, hp⟩ := id gi1.at_
    have hxl := hp.length
    have hgl := gi.len
    refine ⟨_, rfl, p, dx, _, rfl, h11, rfl, ?_⟩
    refine ⟨_, rfl, p, aRec K, dx, _, _, rfl, h11, T.r_cls, T.r_held, rfl, a, rfl, ⟨xs, hq⟩, fun D hD => lc_ac walk_tup (fun i acc H2 => Paired (LogV K H2) acc ((g.take i).filter fun m => !decide (m = l)) ∧ Ke [] H1 H2) ⟨by rw [List.take_zero]; exact .nil, Ke.new hD⟩ (fun i acc H2 _ _ z => z.2.sqt Wok.nil hq) (fun i x acc H2 H3 hi hd hl2 z y => ?_) (fun acc H2 hd hl2 z => ?_)⟩
    · obtain ⟨rfl, e1⟩ := y
      obtain ⟨m, e2, hm2⟩ := Paired.get hp i x e1
      have hm3 := z.2.log Wok.nil hm2
      have hl3 := z.2.log Wok.nil hl1
      refine ⟨rfl, _, rfl, _, rfl, eL m, eL l, hm3.dp, hl3.dp, lay_eL (gi.wf m (List.mem_of_getElem? e2)), lay_eL wl, by have := depth_eL m; omega, !decide (m = l), ?_, ?_⟩
      · show V.bl (!PyData.eqv (eL m) (eL l)) = V.bl (!decide (m = l))
        rw [eqv_eL]
      · cases hc : (!decide (m = l)) with
        | false =>
          refine ite_f rfl (L2.Acc.skip hd hl2 ⟨?_, z.2⟩)
          rw [take_snoc e2, List.filter_append]
          simp only [List.filter_cons, hc, List.filter_nil, Bool.false_eq_true, if_false, List.append_nil]
          exact z.1
        | true =>
          refine ite_t rfl ⟨_, rfl, L2.Acc.more hd hl2 (by omega) ⟨?_, z.2.own hD⟩⟩
          rw [take_snoc e2, List.filter_append]
          simp only [List.filter_cons, hc, List.filter_nil]
          have kd : Ke [D] H3 (upd H3 D (.lst (acc ++ [x]))) := Ke.on (by simp)
          have wd : Wok [D] H3 := Wok.one (mut_lst hd)
          exact Paired.app (Paired.mapP z.1 fun _ _ => kd.log wd) (.cons (kd.log wd hm3) .nil)
    · rw [hxl, List.take_length] at z
      refine ⟨D, acc, rfl, SqL.of hd, fun r hr0 o ho => ?_⟩
      have k3 : Ke [] H2 (upd H2 r (.frz o (.tup acc))) := Ke.new hr0
      have k13 := z.2.trans k3
      have hfl := List.length_filter_le (fun m => !decide (m = l)) g
      refine ⟨p, q, n, g, .ref r, g.filter fun m => !decide (m = l), rfl, rv1.ke0 k13, hn, ⟨⟨r, acc, rfl, frz_sqt, k3.logs Wok.nil z.1⟩, gi.nd.filter _, fun m hm => gi.wf m (List.mem_filter.mp hm).1, by omega⟩, fun H4 k4 rv4 => ?_⟩
      exact k H4 ((k1.trans k13).any.trans k4) rv4
end
end RO

/-! text E1 -/
set_option Elab.async false
set_option linter.all false
set_option maxRecDepth 100000
set_option maxHeartbeats 1000000
namespace RO
open PySem PySem.Spec PyProof.Rows L2
/-- a box: what is left of its own digits, its mixing number, the count of what was drawn -/
def BoxV (H : Hp) (b : Addr) (n : Nat) : Prop := ∃ own mix c : Int, H b = some (.lst [.int own, .int mix, .int c]) ∧ 0 ≤ own ∧ 0 ≤ mix ∧ mix < 2305843009213693952 ∧ 0 ≤ c ∧ c ≤ n
theorem BoxV.wok {H : Hp} {b : Addr} {n : Nat} (h : BoxV H b n) : Wok [b] H := let ⟨_, _, _, e, _⟩ := h; Wok.one (mut_lst e)
theorem BoxV.ke {W : List Addr} {H H' : Hp} {b : Addr} {n : Nat} (h : BoxV H b n) (k : Ke W H H') (hb : b ∉ W) : BoxV H' b n := let ⟨o, m, c, e, r⟩ := h; ⟨o, m, c, k _ _ e hb, r⟩
theorem BoxV.mono {H : Hp} {b : Addr} {n m : Nat} (h : BoxV H b n) (l : n ≤ m) : BoxV H b m := let ⟨o, i, c, e, r1, r2, r3, r4, r5⟩ := h; ⟨o, i, c, e, r1, r2, r3, r4, by omega⟩
theorem BoxV.own {H : Hp} {b p : Addr} {o : HO} {n : Nat} (h : BoxV H b n) (hp : H p = none) : BoxV (upd H p o) b n := h.ke (W := []) (Ke.new hp) (by simp)
section
variable {P : Program} {w : World} {K : PySem.W.Frag} {mg : Str → Option Value} {base : Heap}
theorem pe_weak {X : Cx} {e : Expr} {t t' : TE} (h : PE X e t) (imp : ∀ σ H Q, t' σ H Q → t σ H Q) : PE X e t' := ⟨fun pins s σ H Q I q => h.run pins s σ H Q I (imp σ H Q q)⟩
/-! ### _law_box -/
def tNm (K : PySem.W.Frag) : TE := fun σ H Q => ∃ (sc : Addr) (ns : List Int) (k : Nat), σ[0]? = some (some (.ref sc)) ∧ σ[1]? = some (some (.int k)) ∧ SqL K H sc (ns.map V.int) ∧ ∀ nm : Int, Q (.int nm) H
def spBox (K : PySem.W.Frag) : Sp := fun vs H Q _ => ∃ (s : Addr) (ns : List Int) (k : Nat), vs = [.ref s, .int k] ∧ SqL K H s (ns.map V.int) ∧ k < 2 ∧ ∀ b H', H b = none → Ke [] H H' → BoxV H' b 0 → Q (.ref b) H'
theorem sc_Box : FnScope ["_law_script", "_law_k", "_law_name", "_law_own"] ["_law_script", "_law_k"] (defScope sLawBox) := ⟨rfl, rfl, rfl, by decide +kernel, rfl, by decide +kernel, by decide +kernel⟩
theorem ok_box (T : Tx K mg) : C8.Cal P w K mg base 1 "_law_box" (spBox K) [] := by
  obtain ⟨fd, F⟩ := T.d__law_box
  refine mk_cal F T.g__law_box sc_Box (fun _ _ _ _ _ _ us hl => match us, hl with | [_, _], _ => rfl) (fun vs H Q E h => ?_) (fun cdv A outer s H vs Q E hr h => ?_)
  · obtain ⟨s, ns, k, rfl, _⟩ := h
    rfl
  · obtain ⟨sc, ns, k, rfl, hs, hk, q⟩ := h
    refine ⟨_, pss_cons (ps_set sc_Box.nd (i := 2) rfl (Or.inl rfl) (pe_weak (t' := tNm K) (pe_ifExp (pt_cmpR op_lt (pv 1) (pe_callB call_len_seq (by rfl) T.b_len PySem.boot_len (pa_cons (pv 0) pa_nil)) (nomark _)) (pe_ix ix_list (pv 0) (pv 1) (fun _ _ => rfl)) (pe_op op_add (pe_op op_mul pe_int (pv 1)) pe_int)) (fun σ H Q h => ?_)))
      (pss_cons (ps_set sc_Box.nd (i := 3) rfl (Or.inl rfl) (pe_op op_mul (pe_op op_mod (pe_callB call_abs (by rfl) T.b_abs boot_abs (pa_cons (pv 2) pa_nil)) (pe_op op_powW (pe_op op_powW pe_int pe_int) pe_int))
        (pe_callTy call_int1 (by rfl) T.b_int boot_int (pa_cons (pe_cmpR op_ge (pe_callB call_abs (by rfl) T.b_abs boot_abs (pa_cons (pv 2) pa_nil)) (pe_op op_powW pe_int pe_int) (nomark _)) pa_nil))))
      (pss_one (ps_ret (pe_lst (pa_cons (pv 3) (pa_cons (pe_op op_mod (pe_op op_mul (pe_op op_add (pe_op op_add (pe_op op_mod (pv 2) pe_int) (pe_op op_mul (pe_op op_mul pe_int (pv 1)) (pv 1))) pe_int) pe_int) pe_int) (pa_cons pe_int pa_nil))))))), ?_⟩
    · obtain ⟨sc, ns, k, h0, h1, hs, q⟩ := h
      refine ⟨_, h1, _, h0, sc, _, rfl, .inl hs, (k : Int), ((ns.map V.int).length : Int), rfl, rfl, _, rfl, ?_⟩
      refine ite2 (fun hc => ?_) (fun hc => ?_)
      · rw [decide_eq_true_eq, List.length_map] at hc
        have hk : k < ns.length := by omega
        exact ⟨_, h0, _, h1, sc, _, k, .int ns[k], rfl, rfl, hs, atI_nat (by rw [List.getElem?_map, List.getElem?_eq_getElem hk]; rfl), q _⟩
      · exact ⟨_, h1, 5, k, rfl, rfl, .inl ⟨by decide, by decide⟩, _, 2, rfl, rfl, q _⟩
    refine ⟨sc, ns, k, rfl, rfl, hs, fun nm => ?_⟩
    refine ⟨_, rfl, nm, rfl, 10, 60, rfl, rfl, by decide +kernel, ?_⟩
    refine ⟨_, 5, rfl, rfl, by decide +kernel, ?_⟩
    refine ⟨_, _, rfl, rfl, Int.pow_pos (Int.pow_pos (by decide)), ?_⟩
    refine ⟨_, rfl, nm, rfl, 10, 18, rfl, rfl, by decide +kernel, _, _, rfl, rfl, .inr ⟨_, rfl, ?_⟩⟩
    have hb : ∀ b : Bool, (0 : Int) ≤ (if b = true then 1 else 0) ∧ (if b = true then (1 : Int) else 0) ≤ 1 := by decide
    refine ⟨_, _, rfl, rfl, .inr ⟨?_, ?_⟩, ?_⟩
    · have := (hb (decide ((10 : Int) ^ Int.toNat 18 ≤ if nm < 0 then -nm else nm))).1
      exact Int.lt_of_lt_of_le (by decide) this
    · have := (hb (decide ((10 : Int) ^ Int.toNat 18 ≤ if nm < 0 then -nm else nm))).2
      exact Int.lt_of_le_of_lt this (by decide)
    refine ⟨_, rfl, _, rfl, nm, 2305843009213693951, rfl, rfl, (show (0 : Int) < 2305843009213693951 by decide), _, rfl, 104729, k, rfl, rfl, .inl ⟨by decide, by decide⟩, _, rfl, _, k, rfl, rfl, .inr ⟨by omega, by omega⟩, ?_⟩
    refine ⟨_, _, rfl, rfl, _, 37, rfl, rfl, _, 48271, rfl, rfl, .inr ⟨by decide, by decide⟩, _, 2305843009213693921, rfl, rfl, (show (0 : Int) < 2305843009213693921 by decide), ?_⟩
    refine ⟨by rw [sizeLine_eq]; exact Nat.le_of_ble_eq_true rfl, fun b hb0 => q b _ hb0 (Ke.new hb0) ⟨_, _, 0, upd_same, ?_, ?_, ?_, by omega, by omega⟩⟩
    · refine Int.mul_nonneg (Int.emod_nonneg _ (Int.ne_of_gt (Int.pow_pos (Int.pow_pos (by decide))))) (hb _).1
    · exact Int.emod_nonneg _ (by decide)
    · exact Int.lt_trans (Int.emod_lt_of_pos _ (by decide)) (by decide)
/-! ### _law_take -/
def spTake : Sp := fun vs H Q _ => ∃ (b : Addr) (upon : Int) (n : Nat), vs = [.ref b, .int upon] ∧ BoxV H b n ∧ n ≤ 1000000 ∧ 1 ≤ upon ∧ upon ≤ 1000000000 ∧ ∀ r H', 0 ≤ r → r < upon → Ke [b] H H' → BoxV H' b (n + 1) → Q (.int r) H'
theorem sc_Take : FnScope ["_law_box_here", "_law_upon", "_law_digit", "_law_prime", "_law_drawn"] ["_law_box_here", "_law_upon"] (defScope sLawTake) := ⟨rfl, rfl, rfl, by decide +kernel, rfl, by decide +kernel, by decide +kernel⟩
theorem ok_take (T : Tx K mg) : C8.Cal P w K mg base 1 "_law_take" spTake [] := by
  obtain ⟨fd, F⟩ := T.d__law_take
  refine mk_cal F T.g__law_take sc_Take (fun _ _ _ _ _ _ us hl => match us, hl with | [_, _], _ => rfl) (fun vs H Q E h => ?_) (fun cdv A outer s H vs Q E hr h => ?_)
  · obtain ⟨b, u, n, rfl, _⟩ := h
    rfl
  · obtain ⟨b, up, n, rfl, ⟨own, mix, c, hb, h1, h2, h3, h4, h5⟩, hn, hu1, hu2, q⟩ := h
    refine ⟨_, pss_cons (ps_if (pt_cmpR op_gt (pe_ix ix_list (pv 0) pe_int (fun _ _ => rfl)) pe_int (nomark _))
        (pss_cons (ps_set sc_Take.nd (i := 2) rfl (Or.inl rfl) (pe_op op_mod (pe_ix ix_list (pv 0) pe_int (fun _ _ => rfl)) (pv 1)))
        (pss_cons (ps_asg (pe_op op_fdiv (pe_ix ix_list (pv 0) pe_int (fun _ _ => rfl)) (pv 1)) (pg_sub (pv 0) pe_int set_list))
        (pss_one (ps_ret (pv 2))))) pss_nil)
      (pss_cons (ps_asg (pe_op op_add (pe_ix ix_list (pv 0) pe_int (fun _ _ => rfl)) pe_int) (pg_sub (pv 0) pe_int set_list))
      (pss_cons (ps_set sc_Take.nd (i := 3) rfl (Or.inl rfl) (pe_ix ix_list (pe_lst (pa_cons pe_int (pa_cons pe_int (pa_cons pe_int (pa_cons pe_int (pa_cons pe_int (pa_cons pe_int (pa_cons pe_int pa_nil)))))))) (pe_op op_mod (pe_ix ix_list (pv 0) pe_int (fun _ _ => rfl)) pe_int) (fun _ _ => rfl)))
      (pss_cons (ps_set sc_Take.nd (i := 4) rfl (Or.inl rfl) (pe_op op_mod (pe_op op_pow (pe_op op_add (pe_ix ix_list (pv 0) pe_int (fun _ _ => rfl)) (pe_op op_mul pe_int (pe_ix ix_list (pv 0) pe_int (fun _ _ => rfl)))) pe_int) (pv 3)))
      (pss_cons (ps_set sc_Take.nd (i := 4) rfl (Or.inl rfl) (pe_op op_mod (pe_op op_mul (pv 4) (pe_op op_add (pe_op op_mod (pv 4) pe_int) (pe_ix ix_list (pv 0) pe_int (fun _ _ => rfl)))) (pv 3)))
      (pss_cons (ps_if (pt_cmpR op_gt (pv 1) (pe_op op_pow pe_int pe_int) (nomark _))
        (pss_one (ps_set sc_Take.nd (i := 4) rfl (Or.inl rfl) (pe_op op_add (pe_op op_mul (pv 4) pe_int) (pe_op op_mod (pe_op op_add (pe_op op_mul (pe_ix ix_list (pv 0) pe_int (fun _ _ => rfl)) (pe_op op_add (pe_ix ix_list (pv 0) pe_int (fun _ _ => rfl)) pe_int)) (pe_op op_mul (pv 4) (pv 4))) pe_int)))) pss_nil)
      (pss_one (ps_ret (pe_op op_mod (pe_op op_fdiv (pv 4) pe_int) (pv 1))))))))), ?_⟩
    have a0 : atI [V.int own, V.int mix, V.int c] 0 = some (.int own) := atI_nat (j := 0) rfl
    have a2 : atI [V.int own, V.int mix, V.int c] 2 = some (.int c) := atI_nat (j := 2) rfl
    refine ⟨_, rfl, b, _, 0, _, rfl, rfl, SqL.of hb, a0, own, 0, rfl, rfl, _, rfl, ?_⟩
    have hup : (0 : Int) < up := by omega
    refine ite2 (fun hc => ?_) (fun hc => ?_)
    · rw [decide_eq_true_eq] at hc
      refine ⟨_, rfl, b, _, 0, _, rfl, rfl, SqL.of hb, a0, _, rfl, own, up, rfl, rfl, hup, ?_⟩
      refine ⟨_, rfl, b, _, 0, _, rfl, rfl, SqL.of hb, a0, _, rfl, own, up, rfl, rfl, ⟨hup, by omega⟩, _, rfl, b, _, 0, 0, rfl, rfl, hb, rfl, _, rfl, ?_⟩
      exact q _ _ (Int.emod_nonneg _ (by omega)) (Int.emod_lt_of_pos _ hup) (Ke.on (by simp)) ⟨own / up, mix, c, upd_same, Int.ediv_nonneg (by omega) (by omega), h2, h3, h4, by omega⟩
    · rw [decide_eq_true_eq] at hc
      refine ⟨_, rfl, b, _, 2, _, rfl, rfl, SqL.of hb, a2, c, 1, rfl, rfl, _, rfl, b, _, 2, 2, rfl, rfl, hb, rfl, ?_⟩
      have hb1 : (upd H b (.lst [V.int own, V.int mix, V.int (c + 1)])) b = some (.lst [V.int own, V.int mix, V.int (c + 1)]) := upd_same
      have k1 : Ke [b] H (upd H b (.lst [V.int own, V.int mix, V.int (c + 1)])) := Ke.on (by simp)
      refine ⟨by rw [sizeLine_eq]; exact Nat.le_of_ble_eq_true rfl, fun p hp => ?_⟩
      have hbH : (H b).isSome := by rw [hb]; rfl
      have hpb : b ≠ p := by
        rintro rfl
        rw [show (upd H b _) b = _ from upd_same] at hp
        cases hp
      have hb2 : (upd (upd H b (.lst [V.int own, V.int mix, V.int (c + 1)])) p (.lst [V.int 2147483629, V.int 2147483587, V.int 2147483579, V.int 2147483563, V.int 2147483549, V.int 2147483543, V.int 2147483497])) b = some (.lst [V.int own, V.int mix, V.int (c + 1)]) := by
        rw [upd_ne hpb]
        exact hb1
      have k2 := k1.trans (Ke.new (W := [b]) hp (o := .lst [V.int 2147483629, V.int 2147483587, V.int 2147483579, V.int 2147483563, V.int 2147483549, V.int 2147483543, V.int 2147483497]))
      have a1' : atI [V.int own, V.int mix, V.int (c + 1)] 1 = some (.int mix) := atI_nat (j := 1) rfl
      have a2' : atI [V.int own, V.int mix, V.int (c + 1)] 2 = some (.int (c + 1)) := atI_nat (j := 2) rfl
      refine ⟨_, rfl, b, _, 2, _, rfl, rfl, SqL.of hb2, a2', c + 1, 7, rfl, rfl, (show (0 : Int) < 7 by decide), ?_⟩
      obtain ⟨pr, hpr, hp1, hp2⟩ : ∃ pr : Int, atI [V.int 2147483629, V.int 2147483587, V.int 2147483579, V.int 2147483563, V.int 2147483549, V.int 2147483543, V.int 2147483497] ((c + 1) % 7) = some (.int pr) ∧ 0 < pr ∧ pr < 2147483648 := by
        have h7 : (c + 1) % 7 = 0 ∨ (c + 1) % 7 = 1 ∨ (c + 1) % 7 = 2 ∨ (c + 1) % 7 = 3 ∨ (c + 1) % 7 = 4 ∨ (c + 1) % 7 = 5 ∨ (c + 1) % 7 = 6 := by omega
        rcases h7 with e | e | e | e | e | e | e <;> rw [e]
        · exact ⟨_, atI_nat (j := 0) rfl, by decide, by decide⟩
        · exact ⟨_, atI_nat (j := 1) rfl, by decide, by decide⟩
        · exact ⟨_, atI_nat (j := 2) rfl, by decide, by decide⟩
        · exact ⟨_, atI_nat (j := 3) rfl, by decide, by decide⟩
        · exact ⟨_, atI_nat (j := 4) rfl, by decide, by decide⟩
        · exact ⟨_, atI_nat (j := 5) rfl, by decide, by decide⟩
        · exact ⟨_, atI_nat (j := 6) rfl, by decide, by decide⟩
      refine ⟨p, _, _, _, rfl, rfl, SqL.of upd_same, hpr, ?_⟩
      refine ⟨_, rfl, b, _, 1, _, rfl, rfl, SqL.of hb2, a1', _, rfl, b, _, 2, _, rfl, rfl, SqL.of hb2, a2', 7919, c + 1, rfl, rfl, .inl ⟨by decide, by decide⟩, mix, _, rfl, rfl, _, 3, rfl, rfl, ⟨by decide, by decide, by omega⟩, ?_⟩
      refine ⟨_, rfl, _, pr, rfl, rfl, hp1, ?_⟩
      obtain ⟨dr, hdr, d1, d2⟩ : ∃ dr, (mix + 7919 * (c + 1)) ^ (3 : Int).toNat % pr = dr ∧ 0 ≤ dr ∧ dr < pr := ⟨_, rfl, Int.emod_nonneg _ (by omega), Int.emod_lt_of_pos _ hp1⟩
      refine ⟨_, rfl, _, rfl, dr, 1009, congrArg V.int hdr, rfl, (show (0 : Int) < 1009 by decide), _, rfl, b, _, 2, _, rfl, rfl, SqL.of hb2, a2', _, c + 1, rfl, rfl, dr, _, congrArg V.int hdr, rfl, .inl ⟨by omega, by omega⟩, ?_⟩
      refine ⟨_, rfl, _, pr, rfl, rfl, hp1, ?_⟩
      obtain ⟨ds, hds, e1, e2⟩ : ∃ ds, dr * (dr % 1009 + (c + 1)) % pr = ds ∧ 0 ≤ ds ∧ ds < pr := ⟨_, rfl, Int.emod_nonneg _ (by omega), Int.emod_lt_of_pos _ hp1⟩
      have bx : BoxV (upd (upd H b (.lst [V.int own, V.int mix, V.int (c + 1)])) p (.lst [V.int 2147483629, V.int 2147483587, V.int 2147483579, V.int 2147483563, V.int 2147483549, V.int 2147483543, V.int 2147483497])) b (n + 1) := ⟨own, mix, c + 1, hb2, h1, h2, h3, by omega, by omega⟩
      refine nx_join (fun σ H3 => Ke [b] H H3 ∧ BoxV H3 b (n + 1) ∧ ∃ d : Int, 0 ≤ d ∧ σ = [some (.ref b), some (.int up), none, some (.int pr), some (.int d)]) (fun D' hD' hk => ?_) (fun σ H3 hj => ?_)
      · refine ⟨_, rfl, 10, 6, rfl, rfl, ⟨by decide, by decide, by decide⟩, up, _, rfl, rfl, _, rfl, ?_⟩
        refine ite2 (fun _ => ?_) (fun _ => ?_)
        · refine ⟨_, rfl, ds, 1000000007, congrArg V.int hds, rfl, .inl ⟨by omega, by omega⟩, _, rfl, b, _, 1, _, rfl, rfl, SqL.of hb2, a1', _, rfl, b, _, 2, _, rfl, rfl, SqL.of hb2, a2', c + 1, 3, rfl, rfl, mix, _, rfl, rfl, .inl ⟨by omega, by omega⟩, _, rfl, _, rfl, ds, ds, congrArg V.int hds, congrArg V.int hds, .inl ⟨by omega, by omega⟩, _, _, rfl, rfl, _, 1000000007, rfl, rfl, (show (0 : Int) < 1000000007 by decide), _, _, rfl, rfl, ?_⟩
          exact hk _ _ ⟨k2, bx, _, Int.add_nonneg (Int.mul_nonneg e1 (by decide)) (Int.emod_nonneg _ (by decide)), rfl⟩
        · exact hk _ _ ⟨k2, bx, ds, e1, by rw [← hds]; rfl⟩
      · obtain ⟨k3, bx3, d, hd, rfl⟩ := hj
        refine ⟨_, rfl, d, 11, rfl, rfl, ⟨by decide, by decide⟩, _, rfl, _, up, rfl, rfl, hup, ?_⟩
        exact q _ _ (Int.emod_nonneg _ (by omega)) (Int.emod_lt_of_pos _ hup) k3 bx3
end
end RO

/-! text M3 -/
set_option Elab.async false
set_option linter.all false
set_option maxHeartbeats 1000000
/-! Plain: names made of a stem and one letter. -/
namespace RO
open PySem PySem.Spec PyProof.Rows L2
def letters : Str := Str.ofString "abcdefghijklmnopqrstuvwxyz"
theorem letters_len : letters.length = 26 := by decide +kernel
theorem letters_all : ∀ c ∈ letters.cps.toList, 97 ≤ c ∧ c ≤ 122 := by decide +kernel
theorem letters_at : ∀ k < 26, letters.cps.toList[k]? = some (97 + k) := by decide +kernel
theorem toL_app (a b : Str) : (a ++ b).cps.toList = a.cps.toList ++ b.cps.toList := by
  show (a.cps ++ b.cps).toList = _
  rw [Array.toList_append]
theorem len_toL (a : Str) : a.length = a.cps.toList.length := Array.length_toList.symm
theorem cutS_to (z : Str) (k : Nat) : (cutS z none (some (k : Int))).cps.toList = z.cps.toList.take k := by
  unfold cutS
  rw [HT.sIx_nat, HT.sIx_none, List.drop_zero, Nat.sub_zero, List.toList_toArray, len_toL]
  by_cases h : k ≤ z.cps.toList.length
  · rw [Nat.min_eq_left h]
  · rw [Nat.min_eq_right (by omega), List.take_length, List.take_of_length_le (by omega)]
theorem cutS_from (z : Str) (k : Nat) : (cutS z (some (k : Int)) none).cps.toList = z.cps.toList.drop k := by
  unfold cutS
  rw [HT.sIx_nat, HT.sIx_none, List.toList_toArray, len_toL]
  by_cases h : k ≤ z.cps.toList.length
  · rw [Nat.min_eq_left h, List.take_of_length_le (by rw [List.length_drop]; omega)]
  · rw [Nat.min_eq_right (by omega), List.drop_length, List.take_nil, List.drop_eq_nil_of_le (by omega)]
def nmS (z : Str) (k : Nat) (c : Nat) : Str := cutS z none (some (k : Int)) ++ ⟨#[c]⟩ ++ cutS z (some (k : Int)) none
theorem nmS_toL (z : Str) (k c : Nat) : (nmS z k c).cps.toList = z.cps.toList.take k ++ ([c] ++ z.cps.toList.drop k) := by
  unfold nmS
  rw [toL_app, toL_app, cutS_to, cutS_from, List.append_assoc]
theorem nmS_inj {z : Str} {k c d : Nat} (h : nmS z k c = nmS z k d) : c = d := by
  have e : (nmS z k c).cps.toList = (nmS z k d).cps.toList := by rw [h]
  rw [nmS_toL, nmS_toL] at e
  have e2 := List.append_cancel_left e
  simpa using e2
theorem nmS_cell {z : Str} {k c : Nat} (hz : z.length ≤ 7) (ha : ∀ x ∈ z.cps.toList, 97 ≤ x ∧ x ≤ 122) (hc : 97 ≤ c ∧ c ≤ 122) : IsCell (nmS z k c) := by
  have hl : (nmS z k c).length = z.length + 1 := by
    rw [len_toL, nmS_toL, List.length_append, List.length_append, List.length_singleton, List.length_take, List.length_drop, len_toL]
    omega
  refine ⟨by omega, by omega, fun x hx => ?_⟩
  rw [nmS_toL] at hx
  rcases List.mem_append.mp hx with hx | hx
  · exact ha x (List.mem_of_mem_take hx)
  · rcases List.mem_append.mp hx with hx | hx
    · rw [List.mem_singleton.mp hx]
      exact hc
    · exact ha x (List.mem_of_mem_drop hx)
theorem leap_inj {st lp : Int} {t u : Nat} (hl : lp ∈ [(1 : Int), 3, 5, 7, 9, 11]) (ht : t < 5) (hu : u < 5) (h : (st + lp * t) % 26 = (st + lp * u) % 26) : t = u := by
  simp only [List.mem_cons, List.not_mem_nil, or_false] at hl
  rcases hl with rfl | rfl | rfl | rfl | rfl | rfl <;> omega
theorem joinL_nil : ∀ ls : List (List Nat), TL.joinL [] ls = ls.flatten
  | [] => rfl
  | [p] => by simp [TL.joinL]
  | p :: q :: r => by
    have ih := joinL_nil (q :: r)
    simp only [TL.joinL, List.nil_append, ih, List.flatten_cons]
theorem stem_toL (cs : List Nat) : (Txt.join (Str.ofString "") (cs.map fun c => (⟨#[c]⟩ : Str))).cps.toList = cs := by
  rw [TL.join_eq]
  have h := TL.tl_join (Str.ofString "") (cs.map fun c => (⟨#[c]⟩ : Str))
  have e : TL.tl (Str.ofString "") = [] := by decide +kernel
  rw [e, joinL_nil, List.map_map] at h
  have h2 : ((cs.map (TL.tl ∘ fun c => (⟨#[c]⟩ : Str))).flatten) = cs := by
    induction cs with
    | nil => rfl
    | cons c cs ih =>
      rw [List.map_cons, List.flatten_cons]
      have := TL.tl_join (Str.ofString "") (cs.map fun c => (⟨#[c]⟩ : Str))
      rw [e, joinL_nil, List.map_map] at this
      rw [ih this]
      rfl
  exact h.trans h2
end RO

/-! text E2 -/
set_option Elab.async false
set_option linter.all false
set_option maxRecDepth 100000
set_option maxHeartbeats 1000000
namespace RO
open PySem PySem.Spec PyProof.Rows L2
theorem sum_ones : ∀ n : Nat, (List.replicate n 1).sum = n
  | 0 => rfl
  | n + 1 => by rw [List.replicate_succ, List.sum_cons, sum_ones n]; omega
section
variable {P : Program} {w : World} {K : PySem.W.Frag} {mg : Str → Option Value} {base : Heap}
/-! ### _law_of -/
def spOf (K : PySem.W.Frag) : Sp := fun vs H Q _ => ∃ (b : Addr) (s : V) (n : Nat), vs = [.ref b, s] ∧ BoxV H b n ∧ n ≤ 1000000 ∧
  ((∃ (a : Addr) (ns : List Int), s = .ref a ∧ H a = some (.lst (ns.map V.int)) ∧ a ≠ b ∧ ns ≠ [] ∧ ns.length ≤ 100 ∧ ∀ i ∈ ns, ∀ H', Ke [b] H H' → BoxV H' b (n + 1) → Q (.int i) H') ∨
    ∃ z : Str, s = .str z ∧ 0 < z.length ∧ z.length ≤ 100 ∧ ∀ c ∈ z.cps.toList, ∀ H', Ke [b] H H' → BoxV H' b (n + 1) → Q (.str ⟨#[c]⟩) H')
theorem sc_Of : FnScope ["_law_box_here", "_law_some"] ["_law_box_here", "_law_some"] (defScope sLawOf) := ⟨rfl, rfl, rfl, by decide +kernel, rfl, by decide +kernel, by decide +kernel⟩
theorem ok_of (T : Tx K mg) : C8.Cal P w K mg base 2 "_law_of" (spOf K) [] := by
  obtain ⟨fd, F⟩ := T.d__law_of
  have c1 : C8.Cal P w K mg base 1 "_law_take" spTake [] := ok_take T
  refine mk_cal F T.g__law_of sc_Of (fun _ _ _ _ _ _ us hl => match us, hl with | [_, _], _ => rfl) (fun vs H Q E h => ?_) (fun cdv A outer s H vs Q E hr h => ?_)
  · obtain ⟨b, s, n, rfl, _⟩ := h
    rfl
  · obtain ⟨b, s, n, rfl, bx, hn, h⟩ := h
    refine ⟨_, pss_one (ps_ret (pe_ix ix_seq (pv 1) (C8.pe_c c1 hr (Nat.le_refl _) (by rfl) (pa_cons (pv 0) (pa_cons (pe_callB call_len (by rfl) T.b_len PySem.boot_len (pa_cons (pv 1) pa_nil)) pa_nil))) (fun _ _ => rfl))), ?_⟩
    rcases h with ⟨a, ns, rfl, ha, hab, hne, hl, q⟩ | ⟨z, rfl, hz1, hz2, q⟩
    · have hpos : 0 < ns.length := List.length_pos_iff.mpr hne
      refine ⟨_, rfl, _, rfl, _, rfl, _, ns.length, rfl, .inl ⟨_, SqL.of ha, by rw [List.length_map]⟩, b, _, n, rfl, bx, hn, by omega, by omega, fun r H1 h1 h2 k1 bx1 => ?_⟩
      obtain ⟨j, rfl⟩ := Int.eq_ofNat_of_zero_le h1
      have hj : j < ns.length := by omega
      refine .inl ⟨a, _, j, .int ns[j], rfl, rfl, SqL.of (k1 _ _ ha (by simpa using hab)), atI_nat (by rw [List.getElem?_map, List.getElem?_eq_getElem hj]; rfl), q _ (List.getElem_mem hj) H1 k1 bx1⟩
    · refine ⟨_, rfl, _, rfl, _, rfl, _, z.length, rfl, ⟨by rw [sizeLine_eq]; omega, rfl⟩, b, _, n, rfl, bx, hn, by omega, by omega, fun r H1 h1 h2 k1 bx1 => ?_⟩
      obtain ⟨j, rfl⟩ := Int.eq_ofNat_of_zero_le h1
      have hj : j < z.cps.toList.length := by
        have : z.cps.toList.length = z.length := Array.length_toList
        omega
      refine .inr (.inr ⟨z, j, z.cps.toList[j], rfl, rfl, by rw [sizeLine_eq]; omega, atI_nat (List.getElem?_eq_getElem hj), q _ (List.getElem_mem hj) H1 k1 bx1⟩)
/-! ### _law_cells -/
def spCells (K : PySem.W.Frag) : Sp := fun vs H Q _ => ∃ (b : Addr) (m n : Nat), vs = [.ref b, .int m] ∧ BoxV H b n ∧ n ≤ 999000 ∧ m ≤ 5 ∧
  ∀ (p : Addr) (H' : Hp) (cs : List Str), H p = none → Ke [b] H H' → BoxV H' b (n + 11) → H' p = some (.lst (cs.map V.str)) → cs.length = m → cs.Nodup → (∀ c ∈ cs, IsCell c) → Q (.ref p) H'
theorem sc_Cells : FnScope ["_law_box_here", "_law_count", "_law_letters", "_law_start", "_law_leap", "_law_stem", "_law_cut", "_law_turn"] ["_law_box_here", "_law_count"] (defScope sLawCells) := ⟨rfl, rfl, rfl, by decide +kernel, rfl, by decide +kernel, by decide +kernel⟩
theorem ok_cells (T : Tx K mg) : C8.Cal P w K mg base 3 "_law_cells" (spCells K) [] := by
  obtain ⟨fd, F⟩ := T.d__law_cells
  have c1 : C8.Cal P w K mg base 1 "_law_take" spTake [] := ok_take T
  have c2 : C8.Cal P w K mg base 2 "_law_of" (spOf K) [] := ok_of T
  refine mk_cal F T.g__law_cells sc_Cells (fun _ _ _ _ _ _ us hl => match us, hl with | [_, _], _ => rfl) (fun vs H Q E h => ?_) (fun cdv A outer s H vs Q E hr h => ?_)
  · obtain ⟨b, m, n, rfl, _⟩ := h
    rfl
  · obtain ⟨b, m, n, rfl, bx, hn, hm, q⟩ := h
    refine ⟨_, pss_cons (ps_set sc_Cells.nd (i := 2) rfl (Or.inr rfl) pe_str)
      (pss_cons (ps_asg (pe_tup (pa_cons (C8.pe_c c1 hr (by omega) (by rfl) (pa_cons (pv 0) (pa_cons pe_int pa_nil))) (pa_cons (C8.pe_c c2 hr (by omega) (by rfl) (pa_cons (pv 0) (pa_cons (pe_lst (pa_cons pe_int (pa_cons pe_int (pa_cons pe_int (pa_cons pe_int (pa_cons pe_int (pa_cons pe_int pa_nil))))))) pa_nil))) pa_nil)))
        (pg_tup rfl (pgs_cons (pg_name (i := 3) sc_Cells.nd rfl (Or.inr rfl)) (pgs_cons (pg_name (i := 4) sc_Cells.nd rfl (Or.inr rfl)) pgs_nil))))
      (pss_cons (ps_set sc_Cells.nd (i := 5) rfl (Or.inr rfl) (pe_join pe_str (pe_lc (own := [("_law_turn", 7)]) (g := gName 7) (tt := tYes) rfl sc_Cells.nd
          (pi_range1 (by rfl) T.b_range (pa_cons (C8.pe_c c2 hr (by omega) (by rfl) (pa_cons (pv 0) (pa_cons (pe_lst (pa_cons pe_int (pa_cons pe_int (pa_cons pe_int (pa_cons pe_int (pa_cons pe_int (pa_cons pe_int pa_nil))))))) pa_nil))) pa_nil))
          (blkOk_by (own := [("_law_turn", 7)]) (N := ["_law_box_here", "_law_count", "_law_letters", "_law_start", "_law_leap", "_law_stem", "_law_cut", "_law_turn"]) (sc := defScope sLawCells) (by decide +kernel)) (fun _ _ _ _ _ => pg_name (i := 7) sc_Cells.nd rfl (Or.inl rfl)) (fun _ _ _ _ _ => pts_nil)
          (fun _ _ _ _ _ => C8.pe_c c2 hr (by omega) (by rfl) (pa_cons (pv 0) (pa_cons (pv 2) pa_nil))))))
      (pss_cons (ps_set sc_Cells.nd (i := 6) rfl (Or.inr rfl) (C8.pe_c c1 hr (by omega) (by rfl) (pa_cons (pv 0) (pa_cons (pe_op op_add (pe_callB call_len_str (by rfl) T.b_len PySem.boot_len (pa_cons (pv 5) pa_nil)) pe_int) pa_nil))))
      (pss_one (ps_ret (pe_lc (own := [("_law_turn", 7)]) (g := gName 7) (tt := tYes) rfl sc_Cells.nd (pi_range1 (by rfl) T.b_range (pa_cons (pv 1) pa_nil))
          (blkOk_by (own := [("_law_turn", 7)]) (N := ["_law_box_here", "_law_count", "_law_letters", "_law_start", "_law_leap", "_law_stem", "_law_cut", "_law_turn"]) (sc := defScope sLawCells) (by decide +kernel)) (fun _ _ _ _ _ => pg_name (i := 7) sc_Cells.nd rfl (Or.inl rfl)) (fun _ _ _ _ _ => pts_nil)
          (fun _ _ _ _ _ => pe_op op_add_str (pe_op op_add_str (pe_slice sl_str (pv 5) po_none (po_some (pv 6))) (pe_ix ix_str (pv 2) (pe_op op_mod (pe_op op_add (pv 3) (pe_op op_mul (pv 4) (pv 7))) pe_int) (fun _ _ => rfl))) (pe_slice sl_str (pv 5) (po_some (pv 6)) po_none)))))))), ?_⟩
    refine ⟨_, rfl, b, 26, n, rfl, bx, by omega, by decide, by decide, fun st H1 hs1 hs2 k1 bx1 => ?_⟩
    refine ⟨_, rfl, by rw [sizeLine_eq]; exact Nat.le_of_ble_eq_true rfl, fun p1 hp1 => ?_⟩
    have hbp : ∀ {H : Hp} {p : Addr} {n : Nat}, BoxV H b n → H p = none → p ≠ b := by
      rintro H p n ⟨_, _, _, e, _⟩ hp rfl
      rw [hp] at e
      cases e
    refine ⟨b, _, n + 1, rfl, bx1.own hp1, by omega, .inl ⟨p1, [1, 3, 5, 7, 9, 11], rfl, upd_same, hbp bx1 hp1, by simp, by simp, fun lp hlp H2 k2 bx2 => ?_⟩⟩
    have k02 : Ke [b] H H2 := (k1.trans (Ke.new hp1)).trans k2
    refine ⟨by rw [sizeLine_eq]; exact Nat.le_of_ble_eq_true rfl, fun t ht => ?_⟩
    refine ⟨t, _, rfl, SqT.of upd_same, rfl, _, _, rfl, _, _, rfl, rfl, ?_⟩
    have k03 := k02.trans (Ke.new (W := [b]) ht (o := .tup [.int st, .int lp]))
    have bx3 := bx2.own (o := .tup [.int st, .int lp]) ht
    -- the stem
    refine ⟨⟨_, rfl⟩, ?_⟩
    refine ⟨_, rfl, by rw [sizeLine_eq]; exact Nat.le_of_ble_eq_true rfl, fun p2 hp2 => ?_⟩
    refine ⟨b, _, n + 2, rfl, bx3.own hp2, by omega, .inl ⟨p2, [0, 0, 1, 2, 4, 7], rfl, upd_same, hbp bx3 hp2, by simp, by simp, fun sl hsl H4 k4 bx4 => ?_⟩⟩
    have k04 : Ke [b] H H4 := (k03.trans (Ke.new hp2)).trans k4
    have hsl2 : 0 ≤ sl ∧ sl ≤ 7 := by
      simp only [List.mem_cons, List.not_mem_nil, or_false] at hsl
      omega
    refine ⟨sl, rfl, by omega, by omega, fun D hD => lc_ac walk_range (fun i acc H5 => ∃ cs : List Nat, acc = cs.map (fun c => V.str ⟨#[c]⟩) ∧ cs.length = i ∧ (∀ c ∈ cs, 97 ≤ c ∧ c ≤ 122) ∧ Ke [b] H4 H5 ∧ BoxV H5 b (n + 3 + i))
      ⟨[], rfl, rfl, by simp, Ke.new hD, bx4.own hD⟩ (fun _ _ _ _ _ _ => trivial) (fun i x acc H5 H6 hi hd hl z y => ?_) (fun acc H5 hd hl z => ?_)⟩
    · obtain ⟨rfl, rfl⟩ := y
      obtain ⟨cs, rfl, hcl, hca, k5, bx5⟩ := z
      refine ⟨rfl, yes_ite ?_⟩
      refine ⟨_, rfl, _, rfl, b, _, n + 3 + i, rfl, bx5, by omega, .inr ⟨letters, rfl, by rw [letters_len]; decide, by rw [letters_len]; decide, fun c hc H7 k7 bx7 => ?_⟩⟩
      have hbD : D ∉ [b] := by
        rw [List.mem_singleton]
        rintro rfl
        obtain ⟨_, _, _, e, _⟩ := bx4
        rw [e] at hD
        cases hD
      have hd7 := k7 _ _ hd hbD
      refine L2.Acc.more hd7 hl (by omega) ⟨cs ++ [c], by rw [List.map_append]; rfl, by rw [List.length_append, hcl]; rfl, fun d hd' => ?_, (k5.trans k7).own hD, (bx7.ke (W := [D]) (Ke.on (by simp)) (fun z => hbD (by rw [List.mem_singleton] at z ⊢; exact z.symm)))⟩
      rcases List.mem_append.mp hd' with h | h
      · exact hca d h
      · rw [List.mem_singleton.mp h]
        exact letters_all c hc
    obtain ⟨cs, rfl, hcl, hca, k5, bx5⟩ := z
    have hcl7 : cs.length ≤ 7 := by omega
    have k05 := k04.trans k5
    refine ⟨_, D, cs.map fun c => (⟨#[c]⟩ : Str), rfl, rfl, .inl (SqL.of (by rw [hd, List.map_map]; rfl)), ?_, ?_⟩
    · have e1 : (cs.map fun c => (⟨#[c]⟩ : Str)).map (·.length) = List.replicate cs.length 1 := by
        rw [List.map_map]
        exact List.map_const' ..
      rw [e1, sum_ones, List.length_map]
      have e2 : (Str.ofString "").length = 0 := by decide +kernel
      rw [e2]
      simp
      omega
    have hst : (Txt.join (Str.ofString "") (cs.map fun c => (⟨#[c]⟩ : Str))).cps.toList = cs := stem_toL cs
    generalize Txt.join (Str.ofString "") (cs.map fun c => (⟨#[c]⟩ : Str)) = stem at *
    have hsl7 : stem.length = cs.length := by rw [len_toL, hst]
    refine ⟨_, rfl, _, rfl, stem, rfl, by rw [sizeLine_eq]; omega, (stem.length : Int), 1, rfl, rfl, b, _, n + 10, rfl, bx5.mono (by omega), by omega, by omega, by omega, fun cut H6 h1 h2 k6 bx6 => ?_⟩
    obtain ⟨ct, rfl⟩ := Int.eq_ofNat_of_zero_le h1
    have k06 := k05.trans k6
    let ch : Nat → Nat := fun t => ((97 + (st + lp * t) % 26).toNat)
    have hch : ∀ t, 97 ≤ ch t ∧ ch t ≤ 122 := by
      intro t
      have h3 := Int.emod_nonneg (st + lp * t) (show (26 : Int) ≠ 0 by decide)
      have h4 := Int.emod_lt_of_pos (st + lp * t) (show (0 : Int) < 26 by decide)
      show 97 ≤ (97 + (st + lp * t) % 26).toNat ∧ (97 + (st + lp * t) % 26).toNat ≤ 122
      omega
    refine ⟨_, rfl, (m : Int), rfl, by omega, by omega, fun D2 hD2 => lc_ac walk_range (fun i acc H7 => acc = (List.range i).map (fun t => V.str (nmS stem ct (ch t))) ∧ Ke [b] H6 H7 ∧ BoxV H7 b (n + 11)) ⟨rfl, Ke.new hD2, bx6.own hD2⟩ (fun _ _ _ _ _ _ => trivial) (fun i x acc H7 H8 hi hd2 hl2 z y => ?_) (fun acc H7 hd2 hl2 z => ?_)⟩
    · obtain ⟨rfl, rfl⟩ := y
      obtain ⟨rfl, k7, bx7⟩ := z
      refine ⟨rfl, yes_ite ?_⟩
      have hz1 : stem.length ≤ sizeLine := by rw [sizeLine_eq]; omega
      have h3 := Int.emod_nonneg (st + lp * (0 + (i : Int))) (show (26 : Int) ≠ 0 by decide)
      have h4 := Int.emod_lt_of_pos (st + lp * (0 + (i : Int))) (show (0 : Int) < 26 by decide)
      have hlp : -(2 ^ 64) < lp ∧ lp < 2 ^ 64 := by
        simp only [List.mem_cons, List.not_mem_nil, or_false] at hlp
        omega
      refine ⟨_, rfl, _, rfl, ct, rfl, stem, rfl, hz1, _, rfl, _, rfl, _, rfl, _, rfl, lp, 0 + (i : Int), rfl, rfl, .inl hlp, st, _, rfl, rfl, _, 26, rfl, rfl, (show (0 : Int) < 26 by decide), letters, (st + lp * (0 + (i : Int))) % 26, ch i, rfl, rfl, by rw [letters_len, sizeLine_eq]; decide, ?_, ?_⟩
      · obtain ⟨j, ej⟩ := Int.eq_ofNat_of_zero_le h3
        have e1 : ch i = 97 + j := by
          show (97 + (st + lp * (i : Int)) % 26).toNat = _
          rw [Int.zero_add] at ej
          rw [ej]
          omega
        rw [ej, e1]
        exact atI_nat (letters_at j (by omega))
      · have ez : (cutS stem none (some (ct : Int))).length ≤ 7 ∧ (cutS stem (some (ct : Int)) none).length ≤ 7 := by
          rw [len_toL, len_toL, cutS_to, cutS_from, hst, List.length_take, List.length_drop]
          omega
        have e3 : ((⟨#[ch i]⟩ : Str)).length = 1 := rfl
        have e4 : (cutS stem none (some (ct : Int)) ++ (⟨#[ch i]⟩ : Str)).length ≤ 8 := by
          rw [len_toL, toL_app, List.length_append, ← len_toL, ← len_toL, e3]
          omega
        refine ⟨_, _, rfl, rfl, by rw [sizeLine_eq, e3]; omega, ?_⟩
        refine ⟨_, rfl, _, rfl, ct, rfl, stem, rfl, hz1, ?_⟩
        refine ⟨_, _, rfl, rfl, by rw [sizeLine_eq]; omega, ?_⟩
        have hbD : D2 ∉ [b] := by
          rw [List.mem_singleton]
          rintro rfl
          obtain ⟨_, _, _, e, _⟩ := bx6
          rw [e] at hD2
          cases hD2
        refine L2.Acc.more hd2 hl2 (by omega) ⟨?_, k7.own hD2, (bx7.ke (W := [D2]) (Ke.on (by simp)) (fun z => hbD (by rw [List.mem_singleton] at z ⊢; exact z.symm)))⟩
        rw [List.range_succ, List.map_append]
        rfl
    · obtain ⟨rfl, k7, bx7⟩ := z
      refine q D2 H7 ((List.range m).map fun t => nmS stem ct (ch t)) ?_ (k06.trans k7) bx7 ?_ (by simp) ?_ ?_
      · cases e : H D2 with
        | none => rfl
        | some o =>
          by_cases hb : D2 = b
          · subst hb
            obtain ⟨_, _, _, e2, _⟩ := bx6
            rw [e2] at hD2
            cases hD2
          · have := k06 _ _ e (by simpa using hb)
            rw [this] at hD2
            cases hD2
      · rw [hd2, List.map_map]
        rfl
      · rw [List.nodup_iff_pairwise_ne, List.pairwise_map]
        refine (List.nodup_range (n := m)).imp_of_mem fun {t u} h1 h2 hne e => hne ?_
        have := nmS_inj e
        have a1 := Int.emod_nonneg (st + lp * t) (show (26 : Int) ≠ 0 by decide)
        have a2 := Int.emod_nonneg (st + lp * u) (show (26 : Int) ≠ 0 by decide)
        rw [List.mem_range] at h1 h2
        refine leap_inj (st := st) hlp (by omega) (by omega) ?_
        have e : (97 + (st + lp * t) % 26).toNat = (97 + (st + lp * u) % 26).toNat := this
        omega
      · intro c hc
        obtain ⟨t, _, rfl⟩ := List.mem_map.mp hc
        exact nmS_cell (by omega) (by rw [hst]; exact hca) (hch t)
end
end RO

/-! text E3 -/
set_option Elab.async false
set_option linter.all false
set_option maxRecDepth 100000
set_option maxHeartbeats 1000000
namespace RO
open PySem PySem.Spec PyProof.Rows L2
theorem ints_dp {K : PySem.W.Frag} {H : Hp} : ∀ ns : List Int, DpAll K H (ns.map V.int) (ns.map PyData.int)
  | [] => .nil
  | n :: ns => .cons (.int n) (ints_dp ns)
theorem any_int (ns : List Int) (i : Int) : ((ns.map PyData.int).any fun z => PyData.eqv z (.int i)) = decide (i ∈ ns) := by
  rw [List.any_map]
  by_cases h : i ∈ ns
  · rw [decide_eq_true h, List.any_eq_true]
    exact ⟨i, h, by simp [PyData.eqv]⟩
  · rw [decide_eq_false h, List.any_eq_false]
    intro x hx
    simp only [Function.comp, PyData.eqv, beq_iff_eq]
    rintro rfl
    exact h hx
theorem lay_ints (ns : List Int) : PyData.canLayAll0 (ns.map PyData.int) = true := layAll PyData.int ns fun _ _ => by simp [PyData.canLay0]
section
variable {P : Program} {w : World} {K : PySem.W.Frag} {mg : Str → Option Value} {base : Heap}
/-! ### _law_values -/
def ValOk (ns : List Int) : Prop := ns.Nodup ∧ ∀ v ∈ ns, 0 ≤ v ∧ v ≤ 1000000000
def spVals (K : PySem.W.Frag) : Sp := fun vs H Q _ => ∃ (b : Addr) (m n : Nat), vs = [.ref b, .int m] ∧ BoxV H b n ∧ n ≤ 990000 ∧ m ≤ 3 ∧
  ∀ (p : Addr) (H' : Hp) (ns : List Int), H p = none → Ke [b] H H' → BoxV H' b (n + 4) → H' p = some (.lst (ns.map V.int)) → ns.length = m → ValOk ns → Q (.ref p) H'
theorem sc_Vals : FnScope ["_law_box_here", "_law_count", "_law_some", "_law_found", "_law_turn", "_law_value", "_law_spare", "_law_each"] ["_law_box_here", "_law_count"] (defScope sLawValues) := ⟨rfl, rfl, rfl, by decide +kernel, rfl, by decide +kernel, by decide +kernel⟩
theorem ok_vals (T : Tx K mg) : C8.Cal P w K mg base 3 "_law_values" (spVals K) [] := by
  obtain ⟨fd, F⟩ := T.d__law_values
  have c1 : C8.Cal P w K mg base 1 "_law_take" spTake [] := ok_take T
  refine mk_cal F T.g__law_values sc_Vals (fun _ _ _ _ _ _ us hl => match us, hl with | [_, _], _ => rfl) (fun vs H Q E h => ?_) (fun cdv A outer s H vs Q E hr h => ?_)
  · obtain ⟨b, m, n, rfl, _⟩ := h
    rfl
  · obtain ⟨b, m, n, rfl, bx, hn, hm, q⟩ := h
    refine ⟨_, pss_cons (ps_set sc_Vals.nd (i := 2) rfl (Or.inl rfl) (pe_lst (pa_cons pe_int (pa_cons pe_int (pa_cons pe_int (pa_cons pe_int (pa_cons pe_int (pa_cons (pe_op op_pow pe_int pe_int) (pa_cons (pe_op op_add pe_int (C8.pe_c c1 hr (by omega) (by rfl) (pa_cons (pv 0) (pa_cons (pe_op op_pow pe_int pe_int) pa_nil)))) pa_nil)))))))))
      (pss_cons (ps_set sc_Vals.nd (i := 3) rfl (Or.inr rfl) (pe_lst pa_nil))
      (pss_cons (ps_for PassesOwn.never rfl (pi_range1 (by rfl) T.b_range (pa_cons (pv 1) pa_nil)) (pg_name (i := 4) sc_Vals.nd rfl (Or.inl rfl))
        (pss_cons (ps_set sc_Vals.nd (i := 5) rfl (Or.inl rfl) (pe_ix ix_list (pv 2) (C8.pe_c c1 hr (by omega) (by rfl) (pa_cons (pv 0) (pa_cons pe_int pa_nil))) (fun _ _ => rfl)))
        (pss_cons (ps_set sc_Vals.nd (i := 6) rfl (Or.inl rfl) (pe_ix ix_list (pe_lc (own := [("_law_each", 7)]) (g := gName 7) (tt := tTest (tOp (rInS K true) (tVar 7) (tVar 3))) rfl sc_Vals.nd
            (pi_tup (pe_tup (pa_cons pe_int (pa_cons pe_int (pa_cons pe_int (pa_cons pe_int (pa_cons pe_int pa_nil)))))))
            (blkOk_by (own := [("_law_each", 7)]) (N := ["_law_box_here", "_law_count", "_law_some", "_law_found", "_law_turn", "_law_value", "_law_spare", "_law_each"]) (sc := defScope sLawValues) (by decide +kernel)) (fun _ _ _ _ _ => pg_name (i := 7) sc_Vals.nd rfl (Or.inl rfl))
            (fun _ _ _ _ _ => pts_one (pt_cmpR (op_notInS hr) (pv 7) (pv 3) rfl)) (fun _ _ _ _ _ => pv 7)) pe_int (fun _ _ => rfl)))
        (pss_one (ps_expr (pe_bm PySem.F.plainAttrs_list PySem.F.slot_list_append PySem.F.type_list_append mt_append (pv 3) (pa_cons (pe_ifExp (pt_cmpR (op_notInS hr) (pv 5) (pv 3) rfl) (pv 5) (pv 6)) pa_nil)))))))
      (pss_one (ps_ret (pe_callB cr_sorted (by rfl) T.b_sorted boot_sorted (pa_cons (pv 3) pa_nil)))))), ?_⟩
    refine ⟨10, 9, rfl, rfl, ⟨by decide, by decide, by decide⟩, _, rfl, 10, 9, rfl, rfl, ⟨by decide, by decide, by decide⟩, b, _, n, rfl, bx, by omega, by decide, by decide, fun r0 H1 h1 h2 k1 bx1 => ⟨1, r0, rfl, rfl, by rw [sizeLine_eq]; exact Nat.le_of_ble_eq_true rfl, fun sl hsl => ?_⟩⟩
    have hsb : sl ≠ b := by
      rintro rfl
      obtain ⟨_, _, _, e, _⟩ := bx1
      rw [e] at hsl
      cases hsl
    have bx2 := bx1.own (o := .lst [V.int 0, V.int 1, V.int 2, V.int 3, V.int 7, V.int (10 ^ Int.toNat 9), V.int (1 + r0)]) hsl
    have k2 := k1.trans (Ke.new (W := [b]) hsl (o := .lst [V.int 0, V.int 1, V.int 2, V.int 3, V.int 7, V.int (10 ^ Int.toNat 9), V.int (1 + r0)]))
    refine ⟨Nat.zero_le _, fun f hf => ?_⟩
    have hfs : f ≠ sl := by
      rintro rfl
      rw [upd_same] at hf
      cases hf
    have hfb : f ≠ b := by
      rintro rfl
      obtain ⟨_, _, _, e, _⟩ := bx2
      rw [show (upd H1 sl _) f = _ from e] at hf
      cases hf
    have bx3 := bx2.own (o := .lst []) hf
    have k3 := k2.trans (Ke.new (W := [b]) hf (o := .lst []))
    have hfH : H f = none := by
      cases e : H f with
      | none => rfl
      | some o =>
        have := k2 _ _ e (by simpa using hfb)
        rw [show (upd H1 sl _) f = _ from this] at hf
        cases hf
    have hm3 : ((10 : Int) ^ Int.toNat 9) = 1000000000 := by decide
    refine ⟨_, rfl, (m : Int), rfl, by omega, by omega, for_it walk_range (fun i σ H4 => ∃ u4 u5 u6 ns, σ = [some (.ref b), some (.int (m : Int)), some (.ref sl), some (.ref f), u4, u5, u6, none] ∧ Ke [b] H H4 ∧ BoxV H4 b (n + 1 + i) ∧
        H4 sl = some (.lst [V.int 0, V.int 1, V.int 2, V.int 3, V.int 7, V.int (10 ^ Int.toNat 9), V.int (1 + r0)]) ∧ H4 f = some (.lst (ns.map V.int)) ∧ ns.length = i ∧ ValOk ns)
      ⟨none, none, none, [], rfl, k3, bx3, by rw [upd_ne hfs.symm, upd_same], upd_same, rfl, by simp, by simp⟩ (fun _ _ _ _ _ => trivial) (fun i x σ H4 H5 hi z y => ?_) (fun σ H4 z => ?_)⟩
    · obtain ⟨rfl, rfl⟩ := y
      obtain ⟨u4, u5, u6, ns, rfl, k4, bx4, hs4, hf4, hnl, vok⟩ := z
      refine ⟨_, rfl, _, rfl, b, 7, n + 1 + i, rfl, bx4, by omega, by decide, by decide, fun r H6 g1 g2 k6 bx6 => ?_⟩
      have hs6 := k6 _ _ hs4 (by simpa using hsb)
      have hf6 := k6 _ _ hf4 (by simpa using hfb)
      have k06 := k4.trans k6
      obtain ⟨v, hv, hv1, hv2⟩ : ∃ v : Int, atI [V.int 0, V.int 1, V.int 2, V.int 3, V.int 7, V.int (10 ^ Int.toNat 9), V.int (1 + r0)] r = some (.int v) ∧ 0 ≤ v ∧ v ≤ 1000000000 := by
        have h7 : r = 0 ∨ r = 1 ∨ r = 2 ∨ r = 3 ∨ r = 4 ∨ r = 5 ∨ r = 6 := by omega
        rcases h7 with rfl | rfl | rfl | rfl | rfl | rfl | rfl
        · exact ⟨_, atI_nat (j := 0) rfl, by decide, by decide⟩
        · exact ⟨_, atI_nat (j := 1) rfl, by decide, by decide⟩
        · exact ⟨_, atI_nat (j := 2) rfl, by decide, by decide⟩
        · exact ⟨_, atI_nat (j := 3) rfl, by decide, by decide⟩
        · exact ⟨_, atI_nat (j := 4) rfl, by decide, by decide⟩
        · exact ⟨_, atI_nat (j := 5) rfl, by decide, by decide⟩
        · refine ⟨1 + r0, atI_nat (j := 6) rfl, by omega, ?_⟩
          rw [hm3] at h2
          omega
      refine ⟨sl, _, r, _, rfl, rfl, SqL.of hs6, hv, ?_⟩
      refine ⟨by rw [sizeLine_eq]; exact Nat.le_of_ble_eq_true rfl, fun t ht => ?_⟩
      have k7 : Ke [] H6 (upd H6 t (.tup [V.int 11, V.int 12, V.int 13, V.int 14, V.int 15])) := Ke.new ht
      have ht7 : SqT K (upd H6 t (.tup [V.int 11, V.int 12, V.int 13, V.int 14, V.int 15])) t ([(11 : Int), 12, 13, 14, 15].map V.int) := SqT.of upd_same
      refine ⟨t, rfl, ⟨_, ht7⟩, fun D hD => lc_ac walk_tup (fun j acc H8 => acc = (([(11 : Int), 12, 13, 14, 15].take j).filter fun e => !decide (e ∈ ns)).map V.int ∧ Ke [] (upd H6 t (.tup [V.int 11, V.int 12, V.int 13, V.int 14, V.int 15])) H8) ⟨rfl, Ke.new hD⟩ (fun j acc H8 _ _ z => z.2.sqt Wok.nil ht7) (fun j x acc H8 H9 hj hd hl z y => ?_) (fun acc H8 hd hl z => ?_)⟩
      · obtain ⟨rfl, e1⟩ := y
        rw [List.getElem?_map] at e1
        obtain ⟨e, e2, e3⟩ := Option.map_eq_some_iff.mp e1
        subst e3
        have hf9 := z.2.same _ _ (k7.same _ _ hf6)
        have hj5 : j < 5 := hj
        refine ⟨rfl, _, rfl, _, rfl, .int e, ns.map PyData.int, .int e, .inl (.lst (SqL.of hf9) (ints_dp ns)), by simp [PyData.canLay0], lay_ints ns, by simp [PyData.depth], !decide (e ∈ ns), ?_, ?_⟩
        · show V.bl (!(ns.map PyData.int).any fun z => PyData.eqv z (.int e)) = V.bl (!decide (e ∈ ns))
          rw [any_int]
        · cases hc : (!decide (e ∈ ns)) with
          | false =>
            refine ite_f rfl (L2.Acc.skip hd hl ⟨?_, z.2⟩)
            rw [take_snoc e2, List.filter_append, z.1]
            simp [hc]
          | true =>
            refine ite_t rfl ⟨_, rfl, L2.Acc.more hd hl (by omega) ⟨?_, z.2.own hD⟩⟩
            rw [take_snoc e2, List.filter_append, z.1]
            simp [hc]
      · obtain ⟨sp, rest, hsp⟩ : ∃ sp rest, ([(11 : Int), 12, 13, 14, 15].filter fun e => !decide (e ∈ ns)) = sp :: rest := by
          cases q : ([(11 : Int), 12, 13, 14, 15].filter fun e => !decide (e ∈ ns)) with
          | cons sp rest => exact ⟨sp, rest, rfl⟩
          | nil =>
            exfalso
            rw [List.filter_eq_nil_iff] at q
            have : [(11 : Int), 12, 13, 14, 15].length ≤ ns.length := len_sub (by decide) fun x hx => by
              have := q x hx
              simpa using this
            simp at this
            omega
        have hspm : sp ∈ [(11 : Int), 12, 13, 14, 15] ∧ sp ∉ ns := by
          have : sp ∈ ([(11 : Int), 12, 13, 14, 15].filter fun e => !decide (e ∈ ns)) := by rw [hsp]; simp
          rw [List.mem_filter] at this
          simpa using this
        have hspb : 0 ≤ sp ∧ sp ≤ 1000000000 := by
          have := hspm.1
          simp only [List.mem_cons, List.not_mem_nil, or_false] at this
          omega
        have e8 : acc = (sp :: rest).map V.int := by
          rw [z.1, ← hsp]
          rfl
        subst e8
        have k68 := k7.trans z.2
        have hf8 := k68.same _ _ hf6
        have hs8 := k68.same _ _ hs6
        have k08 := k06.trans (k68.any (W := [b]))
        have bx8 := bx6.ke k68 (by simp)
        refine ⟨D, _, 0, .int sp, rfl, rfl, SqL.of hd, atI_nat (j := 0) rfl, ?_⟩
        have addv : ∀ nv : Int, nv ∉ ns → 0 ≤ nv → nv ≤ 1000000000 → ValOk (ns ++ [nv]) := by
          intro nv g1 g2 g3
          refine ⟨List.nodup_append.mpr ⟨vok.1, by simp, fun a ha c hc e => g1 ?_⟩, fun c hc => ?_⟩
          · rw [← List.mem_singleton.mp hc, ← e]
            exact ha
          · rcases List.mem_append.mp hc with h | h
            · exact vok.2 c h
            · rw [List.mem_singleton.mp h]
              exact ⟨g2, g3⟩
        have kf : ∀ o, Ke [b] H (upd H8 f o) := fun o => k08.own hfH
        refine ⟨_, rfl, .inl ⟨rfl, _, SqL.of hf8⟩, _, rfl, _, rfl, .int v, ns.map PyData.int, .int v, .inl (.lst (SqL.of hf8) (ints_dp ns)), by simp [PyData.canLay0], lay_ints ns, by simp [PyData.depth], !decide (v ∈ ns), ?_, ?_⟩
        · show V.bl (!(ns.map PyData.int).any fun z => PyData.eqv z (.int v)) = V.bl (!decide (v ∈ ns))
          rw [any_int]
        · by_cases hvn : v ∈ ns
          · refine ite_f (by rw [decide_eq_true hvn]; rfl) ⟨_, rfl, f, _, .int sp, rfl, rfl, hf8, by rw [List.length_map, sizeLine_eq]; omega, ?_⟩
            exact ⟨_, _, _, ns ++ [sp], rfl, kf _, (bx8.ke (W := [f]) (Ke.on (by simp)) (by simpa using hfb.symm)).mono (by omega), by rw [upd_ne hfs.symm]; exact hs8, by rw [upd_same, List.map_append]; rfl, by rw [List.length_append, hnl]; rfl, addv sp hspm.2 hspb.1 hspb.2⟩
          · refine ite_t (by rw [decide_eq_false hvn]; rfl) ⟨_, rfl, f, _, .int v, rfl, rfl, hf8, by rw [List.length_map, sizeLine_eq]; omega, ?_⟩
            exact ⟨_, _, _, ns ++ [v], rfl, kf _, (bx8.ke (W := [f]) (Ke.on (by simp)) (by simpa using hfb.symm)).mono (by omega), by rw [upd_ne hfs.symm]; exact hs8, by rw [upd_same, List.map_append]; rfl, by rw [List.length_append, hnl]; rfl, addv v hvn hv1 hv2⟩
    · obtain ⟨u4, u5, u6, ns, rfl, k4, bx4, hs4, hf4, hnl, vok⟩ := z
      have hml : (m : Int).toNat = m := Int.toNat_natCast m
      rw [hml] at hnl bx4
      refine ⟨_, rfl, f, ns, rfl, SqL.of hf4, by omega, fun ns' p hpm _ hp0 => ?_⟩
      have hpH : H p = none := by
        cases e : H p with
        | none => rfl
        | some o =>
          by_cases hpb : p = b
          · subst hpb
            obtain ⟨_, _, _, e2, _⟩ := bx4
            rw [e2] at hp0
            cases hp0
          · have := k4 _ _ e (by simpa using hpb)
            rw [this] at hp0
            cases hp0
      exact q p _ ns' hpH (k4.trans (Ke.new hp0)) ((bx4.own hp0).mono (by omega)) upd_same (by rw [hpm.length_eq, hnl]) ⟨hpm.nodup_iff.mpr vok.1, fun v hv => vok.2 v (hpm.mem_iff.mp hv)⟩
end
end RO

/-! text E4 -/
set_option Elab.async false
set_option linter.all false
set_option maxRecDepth 100000
set_option maxHeartbeats 1000000
namespace RO
open PySem PySem.Spec PyProof.Rows L2
theorem wf_of {l l' : Log} (pm : l'.Perm l) (hs : l'.Pairwise (fun y z => PySem.W.dataLt (eP z) (eP y) = false)) (n : (l.map (·.1)).Nodup) (h : ∀ p ∈ l, IsCell p.1 ∧ 0 ≤ p.2 ∧ p.2 ≤ 1000000000) (hl : l.length ≤ 60) : WfLog l' :=
  ⟨asc_of hs ((pm.map _).nodup_iff.mpr n), fun p hp => h p (pm.mem_iff.mp hp), by rw [pm.length_eq]; exact hl⟩
theorem not_box {H H' : Hp} {b p : Addr} {n : Nat} (bx : BoxV H b n) (hp : H p = none) : p ≠ b := by
  rintro rfl
  obtain ⟨_, _, _, e, _⟩ := bx
  rw [hp] at e
  cases e
theorem new_at {H H' : Hp} {b p : Addr} {n : Nat} (k : Ke [b] H H') (bx : BoxV H' b n) (hp : H' p = none) : H p = none := by
  cases e : H p with
  | none => rfl
  | some o =>
    have := k _ _ e (by rw [List.mem_singleton]; exact not_box (H' := H) bx hp)
    rw [this] at hp
    cases hp
theorem stab_logs {K : PySem.W.Frag} {D : Addr} {acc xs : List V} {H H' : Hp} {g : List Log} (h : H D = some (.lst acc)) (k : Ke [D] H H') (l : LogsV K H xs g) : LogsV K H' xs g := k.logs (Wok.one (mut_lst h)) l
/-- a family as it is made -/
structure Fam (g : List Log) : Prop where
  nd : g.Nodup
  wf : ∀ l ∈ g, WfLog l
theorem Fam.add {g : List Log} (f : Fam g) {l : Log} (w : WfLog l) (h : l ∉ g) : Fam (g ++ [l]) := by
  refine ⟨List.nodup_append.mpr ⟨f.nd, by simp, fun a ha b hb e => h ?_⟩, fun m hm => ?_⟩
  · rw [← List.mem_singleton.mp hb, ← e]
    exact ha
  · rcases List.mem_append.mp hm with hm | hm
    · exact f.wf m hm
    · rw [List.mem_singleton.mp hm]
      exact w
abbrev rInt1 : List V → Hp → VK → Prop := fun xs H Q => (∃ i, xs = [.int i] ∧ Q (.int i) H) ∨ ∃ k, xs = [.bl k] ∧ Q (.int (if k then 1 else 0)) H
/-- found.extend([log] * int(log not in found)) -/
theorem ext_step {K : PySem.W.Frag} {i j : Nat} {D : Ends} {σ : L2.St} {H : Hp} {f : Addr} {fs : List V} {g : List Log} {u : V} {l : Log} (hi : σ[i]? = some (some (.ref f))) (hj : σ[j]? = some (some u)) (hf : H f = some (.lst fs)) (hg : LogsV K H fs g) (fm : Fam g) (hu : LogV K H u l) (wl : WfLog l) (hz : g.length ≤ 50)
    (k : ∀ H' fs' g', Ke [f] H H' → H' f = some (.lst fs') → LogsV K H' fs' g' → Fam g' → g'.length ≤ g.length + 1 → l ∈ g' → D.nx σ H') :
    tDrop (tBM K "list" rExtend (tVar i) (tCons (tOp rRep (tLst (tCons (tVar j) tNil)) (tCB rInt1 (tCons (tOp (rInS K true) (tVar j) (tVar i)) tNil))) tNil)) D σ H := by
  refine ⟨_, hi, .inl ⟨rfl, _, SqL.of hf⟩, _, hj, by rw [sizeLine_eq]; exact Nat.le_of_ble_eq_true rfl, fun p1 hp1 => ?_⟩
  have k1 : Ke [] H (upd H p1 (.lst [u])) := Ke.new hp1
  have hf1 := k1.same _ _ hf
  have hg1 := k1.logs Wok.nil hg
  have hu1 := k1.log Wok.nil hu
  have hp1' : (upd H p1 (.lst [u])) p1 = some (.lst [u]) := upd_same
  refine ⟨_, hj, _, hi, eL l, g.map eL, hu1.dp, .inl (.lst (SqL.of hf1) (logs_dp hg1)), lay_eL wl, lay_logs fm.wf, by have := depth_eL l; omega, .inr ⟨!decide (l ∈ g), ?_, ?_⟩⟩
  · show [V.bl (!(g.map eL).any fun z => PyData.eqv z (eL l))] = [V.bl (!decide (l ∈ g))]
    rw [any_eL]
  have hfl := hg.length
  by_cases hm : l ∈ g
  · rw [decide_eq_true hm]
    refine ⟨p1, 0, [u], rfl, rfl, hp1', by decide, by decide, by rw [sizeLine_eq]; exact Nat.le_of_ble_eq_true rfl, fun p2 hp2 => ?_⟩
    have k2 := k1.trans (Ke.new (o := .lst []) hp2)
    refine ⟨f, p2, fs, [], rfl, rfl, k2.same _ _ hf, upd_same, by rw [List.length_nil, sizeLine_eq]; omega, ?_⟩
    have k3 : Ke [f] H (upd (upd (upd H p1 (.lst [u])) p2 (.lst [])) f (.lst (fs ++ []))) := k2.any.trans (Ke.on (by simp))
    exact k _ (fs ++ []) (g ++ []) k3 upd_same (Paired.app (k3.logs (Wok.one (mut_lst hf)) hg) .nil) (by rw [List.append_nil]; exact fm) (by simp) (by simpa using hm)
  · rw [decide_eq_false hm]
    refine ⟨p1, 1, [u], rfl, rfl, hp1', by decide, by decide, by rw [sizeLine_eq]; exact Nat.le_of_ble_eq_true rfl, fun p2 hp2 => ?_⟩
    have k2 := k1.trans (Ke.new (o := .lst [u]) hp2)
    refine ⟨f, p2, fs, [u], rfl, rfl, k2.same _ _ hf, upd_same, by rw [List.length_singleton, sizeLine_eq]; omega, ?_⟩
    have k3 : Ke [f] H (upd (upd (upd H p1 (.lst [u])) p2 (.lst [u])) f (.lst (fs ++ [u]))) := k2.any.trans (Ke.on (by simp))
    exact k _ (fs ++ [u]) (g ++ [l]) k3 upd_same (Paired.app (k3.logs (Wok.one (mut_lst hf)) hg) (.cons (k3.log (Wok.one (mut_lst hf)) hu) .nil)) (fm.add wl hm) (by simp) (by simp)
section
variable {P : Program} {w : World} {K : PySem.W.Frag} {mg : Str → Option Value} {base : Heap}
/-! ### _law_loose -/
def spLoose (K : PySem.W.Frag) : Sp := fun vs H Q _ => ∃ (b p : Addr) (cs : List Str) (m n : Nat), vs = [.ref b, .ref p, .int m] ∧ BoxV H b n ∧ n ≤ 900000 ∧ p ≠ b ∧ H p = some (.lst (cs.map V.str)) ∧ cs.Nodup ∧ (∀ c ∈ cs, IsCell c) ∧ cs.length ≤ 5 ∧ m ≤ 8 ∧
  ∀ v H' g, Ke [b] H H' → BoxV H' b (n + 100) → GIn K H' v g → g.length ≤ m → Q v H'
theorem sc_Loose : FnScope ["_law_box_here", "_law_cells_here", "_law_count", "_law_found", "_law_turn", "_law_entry", "_law_name"] ["_law_box_here", "_law_cells_here", "_law_count"] (defScope sLawLoose) := ⟨rfl, rfl, rfl, by decide +kernel, rfl, by decide +kernel, by decide +kernel⟩
theorem ok_loose (T : Tx K mg) : C8.Cal P w K mg base 3 "_law_loose" (spLoose K) [] := by
  obtain ⟨fd, F⟩ := T.d__law_loose
  have c1 : C8.Cal P w K mg base 1 "_law_take" spTake [] := ok_take T
  refine mk_cal F T.g__law_loose sc_Loose (fun _ _ _ _ _ _ us hl => match us, hl with | [_, _, _], _ => rfl) (fun vs H Q E h => ?_) (fun cdv A outer s H vs Q E hr h => ?_)
  · obtain ⟨b, p, cs, m, n, rfl, _⟩ := h
    rfl
  · obtain ⟨b, p, cs, m, n, rfl, bx, hn, hpb, hp, cnd, cok, cl, hm, q⟩ := h
    refine ⟨_, pss_cons (ps_set sc_Loose.nd (i := 3) rfl (Or.inl rfl) (pe_lst pa_nil))
      (pss_cons (ps_for PassesOwn.never rfl (pi_range1 (by rfl) T.b_range (pa_cons (pv 2) pa_nil)) (pg_name (i := 4) sc_Loose.nd rfl (Or.inl rfl))
        (pss_cons (ps_set sc_Loose.nd (i := 5) rfl (Or.inl rfl) (pe_callTy call_tupF (by rfl) T.b_tuple boot_tuple (pa_cons (pe_callB (cr_sortedPr hr) (by rfl) T.b_sorted boot_sorted (pa_cons
            (pe_lc (own := [("_law_name", 6)]) (g := gName 6) (tt := tTest (tOp (rI0 fun i j => .bl (decide (j < i))) (tCall spTake [] C8.E0 (tCons (tVar 0) (tCons (tC (.int 3)) tNil))) (tC (.int 0)))) (te := tTup (tCons (tVar 6) (tCons (tCall spTake [] C8.E0 (tCons (tVar 0) (tCons (tC (.int 3)) tNil))) tNil))) rfl sc_Loose.nd (pi_list (pv 1))
              (blkOk_by (own := [("_law_name", 6)]) (N := ["_law_box_here", "_law_cells_here", "_law_count", "_law_found", "_law_turn", "_law_entry", "_law_name"]) (sc := defScope sLawLoose) (by decide +kernel)) (fun _ _ _ _ _ => pg_name (i := 6) sc_Loose.nd rfl (Or.inl rfl))
              (fun _ _ _ _ _ => pts_one (pt_cmpR op_gt (C8.pe_c c1 hr (by omega) (by rfl) (pa_cons (pv 0) (pa_cons pe_int pa_nil))) pe_int (nomark _)))
              (fun _ _ _ _ _ => pe_tup (pa_cons (pv 6) (pa_cons (C8.pe_c c1 hr (by omega) (by rfl) (pa_cons (pv 0) (pa_cons pe_int pa_nil))) pa_nil)))) pa_nil)) pa_nil)))
        (pss_one (ps_expr (pe_bm PySem.F.plainAttrs_list PySem.F.slot_list_extend PySem.F.type_list_extend mt_extend (pv 3) (pa_cons (pe_op op_rep (pe_lst (pa_cons (pv 5) pa_nil)) (pe_callTy call_int1 (by rfl) T.b_int boot_int (pa_cons (pe_cmpR (op_notInS hr) (pv 5) (pv 3) rfl) pa_nil))) pa_nil))))))
      (pss_one (ps_ret (pe_callTy call_tupF (by rfl) T.b_tuple boot_tuple (pa_cons (pe_callB (cr_sortedG hr) (by rfl) T.b_sorted boot_sorted (pa_cons (pv 3) pa_nil)) pa_nil))))), ?_⟩
    refine ⟨Nat.zero_le _, fun f hf0 => ?_⟩
    have hfb : f ≠ b := not_box (H' := H) bx hf0
    refine ⟨_, rfl, (m : Int), rfl, by omega, by omega, for_it walk_range (fun i σ H1 => ∃ u4 u5 fs g, σ = [some (.ref b), some (.ref p), some (.int (m : Int)), some (.ref f), u4, u5, none] ∧ Ke [b] H H1 ∧ BoxV H1 b (n + 10 * i) ∧ H1 f = some (.lst fs) ∧ LogsV K H1 fs g ∧ Fam g ∧ g.length ≤ i)
      ⟨none, none, [], [], rfl, Ke.new hf0, bx.own hf0, upd_same, .nil, ⟨by simp, by simp⟩, by simp⟩ (fun _ _ _ _ _ => trivial) (fun i x σ H1 H2 hi z y => ?_) (fun σ H1 z => ?_)⟩
    · obtain ⟨rfl, rfl⟩ := y
      obtain ⟨u4, u5, fs, g, rfl, k1, bx1, hf1, hg1, fm, gl⟩ := z
      have hp1 := k1 _ _ hp (by simpa using hpb)
      have hi8 : i < 8 := by omega
      refine ⟨_, rfl, p, rfl, ⟨_, SqL.of hp1⟩, fun D hD => lc_ac walk_list (fun j acc H3 => ∃ l : Log, Paired (PairV K H3) acc l ∧ (l.map (·.1)).Sublist (cs.take j) ∧ (∀ q ∈ l, 0 ≤ q.2 ∧ q.2 ≤ 1000000000) ∧ Ke [b] H2 H3 ∧ BoxV H3 b (n + 10 * i + 2 * j))
        ⟨[], .nil, by simp, by simp, Ke.new hD, bx1.own hD⟩ (fun j acc H3 _ _ z => SqL.of (z.choose_spec.2.2.2.1 _ _ hp1 (by simpa using hpb))) (fun j x acc H3 H4 hj hd hl z y => ?_) (fun acc H3 hd hl z => ?_)⟩
      · obtain ⟨rfl, e1⟩ := y
        rw [List.getElem?_map] at e1
        obtain ⟨c, e2, e3⟩ := Option.map_eq_some_iff.mp e1
        subst e3
        obtain ⟨l, hl1, hl2, hl3, k3, bx3⟩ := z
        have hj5 : j < 5 := by rw [List.length_map] at hj; omega
        have hDb : D ≠ b := not_box (H' := H2) bx1 hD
        refine ⟨rfl, _, rfl, b, 3, _, rfl, bx3, by omega, by decide, by decide, fun r H5 g1 g2 k5 bx5 => ⟨r, 0, rfl, rfl, _, rfl, ?_⟩⟩
        have hd5 := k5 _ _ hd (by simpa using hDb)
        have wb : Wok [b] H4 := bx3.wok
        refine ite2 (fun _ => ?_) (fun _ => ?_)
        · refine ⟨_, rfl, _, rfl, b, 3, _, rfl, bx5, by omega, by decide, by decide, fun r2 H6 g3 g4 k6 bx6 => ⟨by rw [sizeLine_eq]; exact Nat.le_of_ble_eq_true rfl, fun t ht => ?_⟩⟩
          have hd6 := k6 _ _ hd5 (by simpa using hDb)
          have k7 := Ke.new (W := [b]) ht (o := .tup [.str c, .int r2])
          have hd7 := k7 _ _ hd6 (by simpa using hDb)
          have k47 := (k5.trans k6).trans k7
          have kD : Ke [D] (upd H6 t (.tup [.str c, .int r2])) (upd (upd H6 t (.tup [.str c, .int r2])) D (.lst (acc ++ [.ref t]))) := Ke.on (by simp)
          have wD : Wok [D] (upd H6 t (.tup [.str c, .int r2])) := Wok.one (mut_lst hd7)
          refine L2.Acc.more hd7 hl (by omega) ⟨l ++ [(c, r2)], ?_, ?_, ?_, (k3.trans k47).own hD, (((bx6.own ht).ke kD (by simpa using hDb.symm))).mono (by omega)⟩
          · exact Paired.app (Paired.mapP hl1 fun _ _ h => kD.pair wD (k47.pair wb h)) (.cons (kD.pair wD ⟨t, rfl, SqT.of upd_same⟩) .nil)
          · rw [take_snoc e2, List.map_append]
            exact hl2.append (List.Sublist.refl _)
          · intro q hq
            rcases List.mem_append.mp hq with h | h
            · exact hl3 q h
            · rw [List.mem_singleton.mp h]
              exact ⟨g3, by show r2 ≤ _; omega⟩
        · refine L2.Acc.skip hd5 hl ⟨l, Paired.mapP hl1 fun _ _ => k5.pair wb, ?_, hl3, k3.trans k5, bx5.mono (by omega)⟩
          rw [take_snoc e2]
          exact hl2.trans (List.sublist_append_left ..)
      · obtain ⟨l, hl1, hl2, hl3, k3, bx3⟩ := z
        rw [List.length_map, List.take_length] at hl2
        have hll : l.length ≤ 5 := by
          have := hl2.length_le
          rw [List.length_map] at this
          omega
        refine ⟨D, acc, l, rfl, .inl (SqL.of hd), hl1, fun p3 xs' l' hp3 hxs pm srt => ?_⟩
        refine ⟨p3, xs', rfl, SqL.of upd_same, fun e he o ho => ?_⟩
        have wl : WfLog l' := wf_of pm srt (hl2.nodup cnd) (fun q hq => ⟨cok q.1 (hl2.subset (List.mem_map_of_mem hq)), hl3 q hq⟩) (by omega)
        have k4 := (Ke.new (W := []) hp3 (o := .lst xs')).trans (Ke.new he (o := .frz o (.tup xs')))
        have k14 : Ke [b] H2 (upd (upd H3 p3 (.lst xs')) e (.frz o (.tup xs'))) := k3.trans k4.any
        have hf4 := k14 _ _ hf1 (by simpa using hfb)
        refine ext_step rfl rfl hf4 (k14.logs bx1.wok hg1) fm ⟨e, o, xs', rfl, ho, upd_same, Paired.mapP hxs fun _ _ => k4.pair Wok.nil⟩ wl (by omega) fun H' fs' g' k5 hf5 hg5 fm5 gl5 _ => ?_
        have bx5 : BoxV H' b (n + 10 * i + 10) := ((bx3.ke k4 (by simp)).ke k5 (by simpa using hfb.symm)).mono (by rw [List.length_map]; omega)
        refine ⟨_, _, fs', g', rfl, ?_, by rw [Nat.mul_add]; exact bx5, hf5, hg5, fm5, by omega⟩
        have k15 : Ke [b, f] H H' := (((k1.trans k14).mono (by simp)).trans (k5.mono (by simp)))
        intro c u ec hc
        refine k15 c u ec ?_
        have : c ≠ f := ne_of_none ec hf0
        simp only [List.mem_cons, List.not_mem_nil, or_false] at hc ⊢
        rintro (h | h)
        · exact hc h
        · exact this h
    · obtain ⟨u4, u5, fs, g, rfl, k1, bx1, hf1, hg1, fm, gl⟩ := z
      have hml : (m : Int).toNat = m := Int.toNat_natCast m
      rw [hml] at gl bx1
      refine ⟨_, rfl, f, fs, g, rfl, .inl (SqL.of hf1), hg1, fun p3 xs' g' hp3 hxs pm _ => ?_⟩
      refine ⟨p3, xs', rfl, SqL.of upd_same, fun e he o ho => ?_⟩
      have k4 := (Ke.new (W := []) hp3 (o := .lst xs')).trans (Ke.new he (o := .frz o (.tup xs')))
      exact q _ _ g' (k1.trans k4.any) ((bx1.ke k4 (by simp)).mono (by omega)) ⟨⟨e, xs', rfl, frz_sqt, k4.logs Wok.nil hxs⟩, pm.nodup_iff.mpr fm.nd, fun l hl => fm.wf l (pm.mem_iff.mp hl), by rw [pm.length_eq]; omega⟩ (by rw [pm.length_eq]; exact gl)
end
end RO

/-! text E5 -/
set_option Elab.async false
set_option linter.all false
set_option maxRecDepth 100000
set_option maxHeartbeats 1000000
namespace RO
open PySem PySem.Spec PyProof.Rows L2
section
variable {P : Program} {w : World} {K : PySem.W.Frag} {mg : Str → Option Value} {base : Heap}
/-! ### _law_product -/
def spProd (K : PySem.W.Frag) : Sp := fun vs H Q _ => ∃ (b p : Addr) (cs : List Str) (n : Nat), vs = [.ref b, .ref p] ∧ BoxV H b n ∧ n ≤ 900000 ∧ p ≠ b ∧ H p = some (.lst (cs.map V.str)) ∧ cs.Nodup ∧ (∀ c ∈ cs, IsCell c) ∧ cs.length ≤ 5 ∧
  ∀ v H' g, Ke [b] H H' → BoxV H' b (n + 100) → GIn K H' v g → g.length ≤ 8 → g ≠ [] → Q v H'
theorem sc_Prod : FnScope ["_law_box_here", "_law_cells_here", "_law_count", "_law_found", "_law_turn", "_law_log", "_law_cell"] ["_law_box_here", "_law_cells_here"] (defScope sLawProduct) := ⟨rfl, rfl, rfl, by decide +kernel, rfl, by decide +kernel, by decide +kernel⟩
theorem ok_prod (T : Tx K mg) : C8.Cal P w K mg base 3 "_law_product" (spProd K) [] := by
  obtain ⟨fd, F⟩ := T.d__law_product
  have c1 : C8.Cal P w K mg base 1 "_law_take" spTake [] := ok_take T
  refine mk_cal F T.g__law_product sc_Prod (fun _ _ _ _ _ _ us hl => match us, hl with | [_, _], _ => rfl) (fun vs H Q E h => ?_) (fun cdv A outer s H vs Q E hr h => ?_)
  · obtain ⟨b, p, cs, n, rfl, _⟩ := h
    rfl
  · obtain ⟨b, p, cs, n, rfl, bx, hn, hpb, hp, cnd, cok, cl, q⟩ := h
    refine ⟨_, pss_cons (ps_par (i := 2) (j := 3) rfl sc_Prod.nd rfl rfl (by decide) rfl rfl (pa_cons (pe_op op_add pe_int (C8.pe_c c1 hr (by omega) (by rfl) (pa_cons (pv 0) (pa_cons pe_int pa_nil)))) (pa_cons (pe_lst pa_nil) pa_nil)) (by rfl))
      (pss_cons (ps_for PassesOwn.never rfl (pi_range1 (by rfl) T.b_range (pa_cons (pv 2) pa_nil)) (pg_name (i := 4) sc_Prod.nd rfl (Or.inl rfl))
        (pss_cons (ps_set sc_Prod.nd (i := 5) rfl (Or.inl rfl) (pe_callTy call_tupF (by rfl) T.b_tuple boot_tuple (pa_cons (pe_callB (cr_sortedPr hr) (by rfl) T.b_sorted boot_sorted (pa_cons
            (pe_lc (own := [("_law_cell", 6)]) (g := gName 6) (tt := tYes) (te := tTup (tCons (tVar 6) (tCons (tCall spTake [] C8.E0 (tCons (tVar 0) (tCons (tC (.int 2)) tNil))) tNil))) rfl sc_Prod.nd (pi_list (pv 1))
              (blkOk_by (own := [("_law_cell", 6)]) (N := ["_law_box_here", "_law_cells_here", "_law_count", "_law_found", "_law_turn", "_law_log", "_law_cell"]) (sc := defScope sLawProduct) (by decide +kernel)) (fun _ _ _ _ _ => pg_name (i := 6) sc_Prod.nd rfl (Or.inl rfl))
              (fun _ _ _ _ _ => pts_nil)
              (fun _ _ _ _ _ => pe_tup (pa_cons (pv 6) (pa_cons (C8.pe_c c1 hr (by omega) (by rfl) (pa_cons (pv 0) (pa_cons pe_int pa_nil))) pa_nil)))) pa_nil)) pa_nil)))
        (pss_one (ps_expr (pe_bm PySem.F.plainAttrs_list PySem.F.slot_list_extend PySem.F.type_list_extend mt_extend (pv 3) (pa_cons (pe_op op_rep (pe_lst (pa_cons (pv 5) pa_nil)) (pe_callTy call_int1 (by rfl) T.b_int boot_int (pa_cons (pe_cmpR (op_notInS hr) (pv 5) (pv 3) rfl) pa_nil))) pa_nil))))))
      (pss_one (ps_ret (pe_callTy call_tupF (by rfl) T.b_tuple boot_tuple (pa_cons (pe_callB (cr_sortedG hr) (by rfl) T.b_sorted boot_sorted (pa_cons (pv 3) pa_nil)) pa_nil))))), ?_⟩
    refine ⟨_, rfl, b, 8, n, rfl, bx, by omega, by decide, by decide, fun ct H0 g1 g2 k0 bx0 => ⟨1, ct, rfl, rfl, Nat.zero_le _, fun f hf0 => ⟨_, _, rfl, ?_⟩⟩⟩
    have hf00 : H f = none := new_at k0 bx0 hf0
    have hfb : f ≠ b := not_box (H' := H0) bx0 hf0
    obtain ⟨c0, rfl⟩ := Int.eq_ofNat_of_zero_le g1
    have k00 := k0.trans (Ke.new (W := [b]) hf0 (o := .lst []))
    refine ⟨_, rfl, 1 + (c0 : Int), rfl, by omega, by omega, for_it walk_range (fun i σ H1 => ∃ u4 u5 fs g, σ = [some (.ref b), some (.ref p), some (.int (1 + (c0 : Int))), some (.ref f), u4, u5, none] ∧ Ke [b] H H1 ∧ BoxV H1 b (n + 1 + 10 * i) ∧ H1 f = some (.lst fs) ∧ LogsV K H1 fs g ∧ Fam g ∧ g.length ≤ i ∧ (0 < i → g ≠ []))
      ⟨none, none, [], [], rfl, k00, bx0.own hf0, upd_same, .nil, ⟨by simp, by simp⟩, by simp, by simp⟩ (fun _ _ _ _ _ => trivial) (fun i x σ H1 H2 hi z y => ?_) (fun σ H1 z => ?_)⟩
    · obtain ⟨rfl, rfl⟩ := y
      obtain ⟨u4, u5, fs, g, rfl, k1, bx1, hf1, hg1, fm, gl, _⟩ := z
      have hp1 := k1 _ _ hp (by simpa using hpb)
      have hi8 : i < 8 := by omega
      refine ⟨_, rfl, p, rfl, ⟨_, SqL.of hp1⟩, fun D hD => lc_ac walk_list (fun j acc H3 => ∃ l : Log, Paired (PairV K H3) acc l ∧ l.map (·.1) = cs.take j ∧ (∀ q ∈ l, 0 ≤ q.2 ∧ q.2 ≤ 1000000000) ∧ Ke [b] H2 H3 ∧ BoxV H3 b (n + 1 + 10 * i + j))
        ⟨[], .nil, by simp, by simp, Ke.new hD, bx1.own hD⟩ (fun j acc H3 _ _ z => SqL.of (z.choose_spec.2.2.2.1 _ _ hp1 (by simpa using hpb))) (fun j x acc H3 H4 hj hd hl z y => ?_) (fun acc H3 hd hl z => ?_)⟩
      · obtain ⟨rfl, e1⟩ := y
        rw [List.getElem?_map] at e1
        obtain ⟨c, e2, e3⟩ := Option.map_eq_some_iff.mp e1
        subst e3
        obtain ⟨l, hl1, hl2, hl3, k3, bx3⟩ := z
        have hj5 : j < 5 := by rw [List.length_map] at hj; omega
        have hDb : D ≠ b := not_box (H' := H2) bx1 hD
        have wb : Wok [b] H4 := bx3.wok
        refine ⟨rfl, yes_ite ?_⟩
        refine ⟨_, rfl, _, rfl, b, 2, _, rfl, bx3, by omega, by decide, by decide, fun r2 H6 g3 g4 k6 bx6 => ⟨by rw [sizeLine_eq]; exact Nat.le_of_ble_eq_true rfl, fun t ht => ?_⟩⟩
        have hd6 := k6 _ _ hd (by simpa using hDb)
        have k7 := Ke.new (W := [b]) ht (o := .tup [.str c, .int r2])
        have hd7 := k7 _ _ hd6 (by simpa using hDb)
        have k47 := k6.trans k7
        have kD : Ke [D] (upd H6 t (.tup [.str c, .int r2])) (upd (upd H6 t (.tup [.str c, .int r2])) D (.lst (acc ++ [.ref t]))) := Ke.on (by simp)
        have wD : Wok [D] (upd H6 t (.tup [.str c, .int r2])) := Wok.one (mut_lst hd7)
        refine L2.Acc.more hd7 hl (by omega) ⟨l ++ [(c, r2)], ?_, ?_, ?_, (k3.trans k47).own hD, ((bx6.own ht).ke kD (by simpa using hDb.symm))⟩
        · exact Paired.app (Paired.mapP hl1 fun _ _ h => kD.pair wD (k47.pair wb h)) (.cons (kD.pair wD ⟨t, rfl, SqT.of upd_same⟩) .nil)
        · rw [take_snoc e2, List.map_append, hl2]
          rfl
        · intro q hq
          rcases List.mem_append.mp hq with h | h
          · exact hl3 q h
          · rw [List.mem_singleton.mp h]
            exact ⟨g3, by show r2 ≤ _; omega⟩
      · obtain ⟨l, hl1, hl2, hl3, k3, bx3⟩ := z
        rw [List.length_map, List.take_length] at hl2
        have hll : l.length ≤ 5 := by
          have := congrArg List.length hl2
          rw [List.length_map] at this
          omega
        refine ⟨D, acc, l, rfl, .inl (SqL.of hd), hl1, fun p3 xs' l' hp3 hxs pm srt => ?_⟩
        refine ⟨p3, xs', rfl, SqL.of upd_same, fun e he o ho => ?_⟩
        have wl : WfLog l' := wf_of pm srt (by rw [hl2]; exact cnd) (fun q hq => ⟨cok q.1 (by rw [← hl2]; exact List.mem_map_of_mem hq), hl3 q hq⟩) (by omega)
        have k4 := (Ke.new (W := []) hp3 (o := .lst xs')).trans (Ke.new he (o := .frz o (.tup xs')))
        have k14 : Ke [b] H2 (upd (upd H3 p3 (.lst xs')) e (.frz o (.tup xs'))) := k3.trans k4.any
        have hf4 := k14 _ _ hf1 (by simpa using hfb)
        refine ext_step rfl rfl hf4 (k14.logs bx1.wok hg1) fm ⟨e, o, xs', rfl, ho, upd_same, Paired.mapP hxs fun _ _ => k4.pair Wok.nil⟩ wl (by omega) fun H' fs' g' k5 hf5 hg5 fm5 gl5 gm5 => ?_
        have bx5 : BoxV H' b (n + 1 + 10 * i + 10) := ((bx3.ke k4 (by simp)).ke k5 (by simpa using hfb.symm)).mono (by rw [List.length_map]; omega)
        refine ⟨_, _, fs', g', rfl, ?_, by rw [Nat.mul_add]; exact bx5, hf5, hg5, fm5, by omega, fun _ => List.ne_nil_of_mem gm5⟩
        have k15 : Ke [b, f] H H' := (((k1.trans k14).mono (by simp)).trans (k5.mono (by simp)))
        intro c u ec hc
        refine k15 c u ec ?_
        have : c ≠ f := ne_of_none ec hf00
        simp only [List.mem_cons, List.not_mem_nil, or_false] at hc ⊢
        rintro (h | h)
        · exact hc h
        · exact this h
    · obtain ⟨u4, u5, fs, g, rfl, k1, bx1, hf1, hg1, fm, gl, gne⟩ := z
      have hml : (1 + (c0 : Int)).toNat = 1 + c0 := by omega
      rw [hml] at gl bx1 gne
      refine ⟨_, rfl, f, fs, g, rfl, .inl (SqL.of hf1), hg1, fun p3 xs' g' hp3 hxs pm _ => ?_⟩
      refine ⟨p3, xs', rfl, SqL.of upd_same, fun e he o ho => ?_⟩
      have k4 := (Ke.new (W := []) hp3 (o := .lst xs')).trans (Ke.new he (o := .frz o (.tup xs')))
      exact q _ _ g' (k1.trans k4.any) ((bx1.ke k4 (by simp)).mono (by omega)) ⟨⟨e, xs', rfl, frz_sqt, k4.logs Wok.nil hxs⟩, pm.nodup_iff.mpr fm.nd, fun l hl => fm.wf l (pm.mem_iff.mp hl), by rw [pm.length_eq]; omega⟩ (by rw [pm.length_eq]; omega) (fun z => gne (by omega) (by rw [z] at pm; exact pm.symm.eq_nil))
end
end RO

/-! text E6 -/
set_option Elab.async false
set_option linter.all false
set_option maxRecDepth 100000
set_option maxHeartbeats 1000000
namespace RO
open PySem PySem.Spec PyProof.Rows L2
/-- a tree of the cells cs with at most n leaves, standing at v, as data -/
inductive TrV (K : PySem.W.Frag) (H : Hp) : List Str → Nat → V → PyData → Prop
  | leaf {cs : List Str} {n : Nat} {a : Addr} : 1 ≤ n → SqT K H a [] → TrV K H cs n (.ref a) (.tuple [])
  | node {cs : List Str} {n m k : Nat} {c : Str} {a b : Addr} {xs : List V} {bs : List (Int × PyData)} {ts : Nat → Addr} {us : Nat → V} : cs[k]? = some c → 1 ≤ m → bs.length * m ≤ n → bs ≠ [] → bs.length ≤ 3 → ValOk (bs.map (·.1)) →
      SqT K H a [.str c, .ref b] → SqT K H b xs → xs.length = bs.length → (∀ i q, bs[i]? = some q → xs[i]? = some (.ref (ts i)) ∧ SqT K H (ts i) [.int q.1, us i]) → (∀ i q, bs[i]? = some q → TrV K H (cs.eraseIdx k) m (us i) q.2) →
      TrV K H cs n (.ref a) (.tuple [.str c, .tuple (bs.map fun q => .tuple [.int q.1, q.2])])
section
variable {K : PySem.W.Frag} {H H' : Hp} {cs : List Str} {n : Nat} {v : V} {d : PyData}
theorem TrV.ke {W : List Addr} (k : Ke W H H') (w : Wok W H) (h : TrV K H cs n v d) : TrV K H' cs n v d := by
  induction h with
  | leaf h s => exact .leaf h (k.sqt w s)
  | node h1 h2 h3 h4 h5 h6 h7 h8 h9 h10 _ ih => exact .node h1 h2 h3 h4 h5 h6 (k.sqt w h7) (k.sqt w h8) h9 (fun i q e => ⟨(h10 i q e).1, k.sqt w (h10 i q e).2⟩) ih
theorem TrV.pos (h : TrV K H cs n v d) : 1 ≤ n := by
  cases h with
  | leaf h _ => exact h
  | node h1 h2 h3 h4 h5 _ _ _ _ _ _ =>
    have := List.length_pos_iff.mpr h4
    exact Nat.le_trans (Nat.mul_pos this h2) h3
theorem dpAll_ix : ∀ {xs : List V} {ds : List PyData}, xs.length = ds.length → (∀ (i : Nat) x d, xs[i]? = some x → ds[i]? = some d → Dp K H x d) → DpAll K H xs ds
  | [], [], _, _ => .nil
  | [], _ :: _, h, _ => by simp at h
  | _ :: _, [], h, _ => by simp at h
  | x :: xs, d :: ds, h, k => .cons (k 0 x d rfl rfl) (dpAll_ix (by simpa using h) fun i x d h1 h2 => k (i + 1) x d (by simpa using h1) (by simpa using h2))
theorem TrV.dp (h : TrV K H cs n v d) : Dp K H v d := by
  induction h with
  | leaf h s => exact .tup s .nil
  | node h1 h2 h3 h4 h5 h6 h7 h8 h9 h10 _ ih =>
    refine .tup h7 (.cons (.str _) (.cons (.tup h8 (dpAll_ix (by rw [List.length_map]; exact h9) fun i x d e1 e2 => ?_)) .nil))
    rw [List.getElem?_map] at e2
    obtain ⟨q, e3, e4⟩ := Option.map_eq_some_iff.mp e2
    subst e4
    obtain ⟨g1, g2⟩ := h10 i q e3
    rw [e1] at g1
    cases g1
    exact .tup g2 (.cons (.int _) (.cons (ih i q e3) .nil))
theorem TrV.lay (h : TrV K H cs n v d) (ok : ∀ c ∈ cs, IsCell c) : PyData.canLay0 d = true := by
  induction h with
  | leaf h s => simp [PyData.canLay0, PyData.canLayAll0]
  | @node cs n m k c a b xs bs ts us h1 h2 h3 h4 h5 h6 h7 h8 h9 h10 _ ih =>
    have hb : PyData.canLayAll0 (bs.map fun q => PyData.tuple [.int q.1, q.2]) = true := layAll (fun q : Int × PyData => PyData.tuple [.int q.1, q.2]) _ fun q hq => by
      obtain ⟨i, hi, ei⟩ := List.mem_iff_getElem.mp hq
      have := ih i q (by rw [List.getElem?_eq_getElem hi, ei]) fun c hc => ok c (List.mem_of_mem_eraseIdx hc)
      simp [PyData.canLay0, PyData.canLayAll0, this]
    have hc := (ok _ (List.mem_of_getElem? h1)).strOk
    simp [PyData.canLay0, PyData.canLayAll0, hb, hc]
/-- a branch: a value and the tree below -/
def BrV (K : PySem.W.Frag) (cs : List Str) (m : Nat) (H : Hp) (x : V) (q : Int × PyData) : Prop := ∃ t u, x = .ref t ∧ SqT K H t [.int q.1, u] ∧ TrV K H cs m u q.2
theorem BrV.ke {m : Nat} {x : V} {q : Int × PyData} {W : List Addr} (k : Ke W H H') (w : Wok W H) : BrV K cs m H x q → BrV K cs m H' x q := fun ⟨t, u, e, s, t'⟩ => ⟨t, u, e, k.sqt w s, t'.ke k w⟩
theorem TrV.of_paired {m k : Nat} {c : Str} {a b : Addr} {xs : List V} {bs : List (Int × PyData)} (h1 : cs[k]? = some c) (h2 : 1 ≤ m) (h3 : bs.length * m ≤ n) (h4 : bs ≠ []) (h5 : bs.length ≤ 3) (h6 : ValOk (bs.map (·.1)))
    (h7 : SqT K H a [.str c, .ref b]) (h8 : SqT K H b xs) (p : Paired (BrV K (cs.eraseIdx k) m H) xs bs) : TrV K H cs n (.ref a) (.tuple [.str c, .tuple (bs.map fun q => .tuple [.int q.1, q.2])]) := by
  have some_ : ∀ i : Nat, ∃ z : Addr × V, ∀ q, bs[i]? = some q → xs[i]? = some (.ref z.1) ∧ SqT K H z.1 [.int q.1, z.2] ∧ TrV K H (cs.eraseIdx k) m z.2 q.2 := by
    intro i
    cases e : bs[i]? with
    | none => exact ⟨(0, .non), fun q z => by cases z⟩
    | some q =>
      obtain ⟨x, e1, t, u, rfl, s, t'⟩ := Paired.getR p i q e
      exact ⟨(t, u), fun q' z => by cases z; exact ⟨e1, s, t'⟩⟩
  obtain ⟨f, hf⟩ := Classical.axiomOfChoice some_
  exact .node (ts := fun i => (f i).1) (us := fun i => (f i).2) h1 h2 h3 h4 h5 h6 h7 h8 p.length (fun i q e => ⟨(hf i q e).1, (hf i q e).2.1⟩) fun i q e => (hf i q e).2.2
end
theorem seqIx {j n : Nat} (h : j < n) : seqIndex? (j : Int) n = some j := by
  unfold seqIndex?
  have h1 : ¬ ((j : Int) < 0) := by omega
  have h2 : (0 : Int) ≤ (j : Int) ∧ (j : Int) < (n : Int) := by omega
  simp [h1, h2]
theorem erase_map {α β : Type} (f : α → β) : ∀ (l : List α) (j : Nat), (l.map f).eraseIdx j = (l.eraseIdx j).map f
  | [], _ => rfl
  | _ :: _, 0 => rfl
  | a :: l, j + 1 => by
    show f a :: (l.map f).eraseIdx j = f a :: (l.eraseIdx j).map f
    rw [erase_map f l j]
def tc : Nat → Nat
  | 0 => 0
  | k + 1 => 20 + 3 * tc k
theorem tc_le : ∀ k ≤ 6, tc k ≤ 8000 := by decide
section
variable {P : Program} {w : World} {K : PySem.W.Frag} {mg : Str → Option Value} {base : Heap}
/-! ### _law_tree -/
def spTree (K : PySem.W.Frag) (k : Nat) : Sp := fun vs H Q _ => ∃ (b p : Addr) (cs : List Str) (bud n : Nat), vs = [.ref b, .ref p, .int bud] ∧ BoxV H b n ∧ n + tc k ≤ 900000 ∧ p ≠ b ∧ H p = some (.lst (cs.map V.str)) ∧ (∀ c ∈ cs, IsCell c) ∧ cs.length < k ∧ cs.length ≤ 5 ∧ bud ≤ 8 ∧
  ∀ v H' d, Ke [b] H H' → BoxV H' b (n + tc k) → TrV K H' cs (max 1 bud) v d → Q v H'
theorem sc_Tree : FnScope ["_law_box_here", "_law_cells_here", "_law_budget", "_law_left", "_law_name", "_law_count", "_law_branches", "_law_value"] ["_law_box_here", "_law_cells_here", "_law_budget"] (defScope sLawTree) := ⟨rfl, rfl, rfl, by decide +kernel, rfl, by decide +kernel, by decide +kernel⟩
theorem ok_tree (T : Tx K mg) : ∀ k : Nat, C8.Cal P w K mg base (4 + k) "_law_tree" (spTree K k) []
  | 0 => by
    obtain ⟨fd, F⟩ := T.d__law_tree
    exact mk_cal F T.g__law_tree sc_Tree (fun _ _ _ _ _ _ us hl => match us, hl with | [_, _, _], _ => rfl) (fun vs H Q E ⟨_, _, _, _, _, _, _, _, _, _, _, h, _⟩ => absurd h (Nat.not_lt_zero _)) (fun cdv A outer s H vs Q E hr ⟨_, _, _, _, _, _, _, _, _, _, _, h, _⟩ => absurd h (Nat.not_lt_zero _))
  | k + 1 => by
    obtain ⟨fd, F⟩ := T.d__law_tree
    have c0 : C8.Cal P w K mg base (4 + k) "_law_tree" (spTree K k) [] := ok_tree T k
    have c1 : C8.Cal P w K mg base 1 "_law_take" spTake [] := ok_take T
    have c2 : C8.Cal P w K mg base 3 "_law_values" (spVals K) [] := ok_vals T
    refine mk_cal (k := 4 + k) F T.g__law_tree sc_Tree (fun _ _ _ _ _ _ us hl => match us, hl with | [_, _, _], _ => rfl) (fun vs H Q E h => ?_) (fun cdv A outer s H vs Q E hr h => ?_)
    · obtain ⟨b, p, cs, bud, n, rfl, _⟩ := h
      rfl
    · obtain ⟨b, p, cs, bud, n, rfl, bx, hn, hpb, hp, cok, clk, cl, hb8, q⟩ := h
      refine ⟨_, pss_cons (ps_if (PW.pt (pw_or (pt_cmpR (op_eqM hr) (pv 1) (pe_lst pa_nil) (nomark _)) (pw_or (pt_cmpR op_lt (pv 2) pe_int (nomark _)) (pw_or1 (pt_cmpR op_eq (C8.pe_c c1 hr (by omega) (by rfl) (pa_cons (pv 0) (pa_cons pe_int pa_nil))) pe_int (nomark _)))))) (pss_one (ps_ret (pe_tup pa_nil))) pss_nil)
        (pss_cons (ps_set sc_Tree.nd (i := 3) rfl (Or.inl rfl) (pe_callTy call_list_of (by rfl) T.b_list boot_list (pa_cons (pv 1) pa_nil)))
        (pss_cons (ps_set sc_Tree.nd (i := 4) rfl (Or.inl rfl) (pe_bm PySem.F.plainAttrs_list PySem.F.slot_list_pop PySem.F.type_list_pop mt_popAt (pv 3) (pa_cons (C8.pe_c c1 hr (by omega) (by rfl) (pa_cons (pv 0) (pa_cons (pe_callB call_len_seq (by rfl) T.b_len PySem.boot_len (pa_cons (pv 3) pa_nil)) pa_nil))) pa_nil)))
        (pss_cons (ps_set sc_Tree.nd (i := 5) rfl (Or.inl rfl) (pe_op op_add pe_int (C8.pe_c c1 hr (by omega) (by rfl) (pa_cons (pv 0) (pa_cons (pe_callB (call_min2 rfl) (by rfl) T.b_min boot_min (pa_cons pe_int (pa_cons (pv 2) pa_nil))) pa_nil)))))
        (pss_cons (ps_set sc_Tree.nd (i := 6) rfl (Or.inl rfl) (pe_lst pa_nil))
        (pss_cons (ps_for PassesOwn.never rfl (pi_list (C8.pe_c c2 hr (by omega) (by rfl) (pa_cons (pv 0) (pa_cons (pv 5) pa_nil)))) (pg_name (i := 7) sc_Tree.nd rfl (Or.inl rfl))
          (pss_one (ps_expr (pe_bm PySem.F.plainAttrs_list PySem.F.slot_list_append PySem.F.type_list_append mt_append (pv 6) (pa_cons (pe_tup (pa_cons (pv 7) (pa_cons (C8.pe_c c0 hr (Nat.le_refl _) (by rfl) (pa_cons (pv 0) (pa_cons (pv 3) (pa_cons (pe_op op_fdiv (pv 2) (pv 5)) pa_nil)))) pa_nil))) pa_nil)))))
        (pss_one (ps_ret (pe_tup (pa_cons (pv 4) (pa_cons (pe_callTy call_tupF (by rfl) T.b_tuple boot_tuple (pa_cons (pv 6) pa_nil)) pa_nil)))))))))), ?_⟩
      have htc : tc (k + 1) = 20 + 3 * tc k := rfl
      have leafQ : ∀ H' e m, Ke [b] H H' → BoxV H' b m → m ≤ n + 1 → H' e = none → Q (.ref e) (upd H' e (.tup [])) := fun H' e m k' bx' hm he =>
        q _ _ (.tuple []) (k'.trans (Ke.new he)) ((bx'.own he).mono (by omega)) (.leaf (Nat.le_max_left ..) (SqT.of upd_same))
      refine ⟨_, rfl, Nat.zero_le _, fun e0 he0 => ?_⟩
      have k1 : Ke [b] H (upd H e0 (.lst [])) := Ke.new he0
      have bx1 := bx.own (o := .lst []) he0
      have hp1 := k1 _ _ hp (by simpa using hpb)
      have hes : (upd H e0 (.lst [])) e0 = some (.lst []) := upd_same
      generalize upd H e0 (.lst []) = H1 at *
      refine ⟨.list (cs.map PyData.str), .list [], .lst (SqL.of hp1) (strs_dp cs), .lst (SqL.of hes) .nil, by simp [PyData.canLay0, lay_strs cok], by simp [PyData.canLay0, PyData.canLayAll0], by simp [PyData.depth, PyData.depthAll], _, rfl, ?_⟩
      by_cases hcs : cs = []
      · subst hcs
        refine ite_t (by simp [PyData.eqv, PyData.eqvAll]) ?_
        refine iteT ?_
        exact ⟨Nat.zero_le _, fun e he => leafQ _ e n k1 bx1 (by omega) he⟩
      refine ite_f (by
        cases cs with
        | nil => exact absurd rfl hcs
        | cons c r => simp [PyData.eqv, PyData.eqvAll]) ?_
      refine ⟨_, rfl, (bud : Int), 1, rfl, rfl, _, rfl, ?_⟩
      by_cases hbud : bud = 0
      · subst hbud
        refine ite_t (by decide) ?_
        refine iteT ?_
        exact ⟨Nat.zero_le _, fun e he => leafQ _ e n k1 bx1 (by omega) he⟩
      refine ite_f (decide_eq_false (by omega)) ?_
      refine ⟨_, rfl, b, 5, n, rfl, bx1, by omega, by decide, by decide, fun r H2 g1 g2 k2 bx2 => ⟨rfl, _, rfl, ?_⟩⟩
      have k02 := k1.trans k2
      refine ite2 (fun _ => ⟨Nat.zero_le _, fun e he => leafQ _ e (n + 1) k02 bx2 (by omega) he⟩) (fun _ => ?_)
      have hp2 := k02 _ _ hp (by simpa using hpb)
      have hcl : 0 < cs.length := List.length_pos_iff.mpr hcs
      -- left, name
      refine ⟨_, rfl, p, _, rfl, .inl (SqL.of hp2), fun lf hlf => ?_⟩
      have hlfb : lf ≠ b := not_box (H' := H) bx2 hlf
      have hlfH : H lf = none := new_at k02 bx2 hlf
      have k3 := k02.trans (Ke.new (W := [b]) hlf (o := .lst (cs.map V.str)))
      have bx3 := bx2.own (o := .lst (cs.map V.str)) hlf
      have hl3 : (upd H2 lf (.lst (cs.map V.str))) lf = some (.lst (cs.map V.str)) := upd_same
      generalize upd H2 lf (.lst (cs.map V.str)) = H3 at *
      refine ⟨_, rfl, .inl ⟨rfl, _, SqL.of hl3⟩, _, rfl, _, rfl, lf, _, rfl, .inl (SqL.of hl3), b, _, n + 1, rfl, bx3, by omega, by rw [List.length_map]; omega, by rw [List.length_map]; omega, fun r1 H4 g3 g4 k4 bx4 => ?_⟩
      obtain ⟨j, rfl⟩ := Int.eq_ofNat_of_zero_le g3
      rw [List.length_map] at g4
      have hj : j < cs.length := by omega
      have hl4 := k4 _ _ hl3 (by simpa using hlfb)
      refine ⟨lf, _, (j : Int), j, .str cs[j], rfl, rfl, hl4, by omega, by omega, seqIx (by rw [List.length_map]; exact hj), by rw [List.getElem?_map, List.getElem?_eq_getElem hj]; rfl, ?_⟩
      rw [erase_map]
      have k04 := k3.trans k4
      have k5 : Ke [b] H (upd H4 lf (.lst ((cs.eraseIdx j).map V.str))) := k04.own hlfH
      have bx5 : BoxV (upd H4 lf (.lst ((cs.eraseIdx j).map V.str))) b (n + 2) := bx4.ke (W := [lf]) (Ke.on (by simp)) (by simpa using hlfb.symm)
      have hl5 : (upd H4 lf (.lst ((cs.eraseIdx j).map V.str))) lf = some (.lst ((cs.eraseIdx j).map V.str)) := upd_same
      generalize upd H4 lf (.lst ((cs.eraseIdx j).map V.str)) = H5 at *
      -- count
      refine ⟨_, rfl, _, rfl, 3, (bud : Int), rfl, b, _, n + 2, rfl, bx5, by omega, ?_, ?_, fun r2 H6 g5 g6 k6 bx6 => ⟨1, r2, rfl, rfl, ?_⟩⟩
      · split <;> omega
      · split <;> omega
      obtain ⟨c0, rfl⟩ := Int.eq_ofNat_of_zero_le g5
      have hc0 : 1 + c0 ≤ 3 ∧ 1 + c0 ≤ bud := by
        split at g6 <;> omega
      have hl6 := k6 _ _ hl5 (by simpa using hlfb)
      have k06 := k5.trans k6
      refine ⟨Nat.zero_le _, fun br hbr => ?_⟩
      have hbrb : br ≠ b := not_box (H' := H) bx6 hbr
      have hbrl : br ≠ lf := by
        rintro rfl
        rw [hl6] at hbr
        cases hbr
      have hbrH : H br = none := new_at k06 bx6 hbr
      have k7 := k06.trans (Ke.new (W := [b]) hbr (o := .lst []))
      have bx7 := bx6.own (o := .lst []) hbr
      have hl7 : (upd H6 br (.lst [])) lf = some (.lst ((cs.eraseIdx j).map V.str)) := by rw [upd_ne hbrl.symm]; exact hl6
      have hb7 : (upd H6 br (.lst [])) br = some (.lst []) := upd_same
      generalize upd H6 br (.lst []) = H7 at *
      refine ⟨_, rfl, _, rfl, b, 1 + c0, n + 3, rfl, bx7, by omega, by omega, fun vl H8 ns hvl k8 bx8 hv8 nsl vok => ?_⟩
      have k08 := k7.trans k8
      have hl8 := k8 _ _ hl7 (by simpa using hlfb)
      have hb8' := k8 _ _ hb7 (by simpa using hbrb)
      have hvlb : vl ≠ b := not_box (H' := H) bx7 hvl
      have hvll : vl ≠ lf := by
        rintro rfl
        rw [hl7] at hvl
        cases hvl
      have hvlr : vl ≠ br := by
        rintro rfl
        rw [hb7] at hvl
        cases hvl
      let m := max 1 (bud / (1 + c0))
      refine ⟨vl, rfl, ⟨_, SqL.of hv8⟩, for_it walk_list (fun i σ H9 => ∃ u7 xs bs, σ = [some (.ref b), some (.ref p), some (.int (bud : Int)), some (.ref lf), some (.str cs[j]), some (.int (1 + (c0 : Int))), some (.ref br), u7] ∧ Ke [b] H H9 ∧ BoxV H9 b (n + 7 + i * tc k) ∧
          H9 lf = some (.lst ((cs.eraseIdx j).map V.str)) ∧ H9 br = some (.lst xs) ∧ H9 vl = some (.lst (ns.map V.int)) ∧ Paired (BrV K (cs.eraseIdx j) m H9) xs bs ∧ bs.map (·.1) = ns.take i)
        ⟨none, [], [], rfl, k08, by rw [Nat.zero_mul]; exact bx8, hl8, hb8', hv8, .nil, rfl⟩ (fun i σ H9 _ z => SqL.of z.choose_spec.choose_spec.choose_spec.2.2.2.2.2.1) (fun i x σ H9 H10 hi z y => ?_) (fun σ H9 z => ?_)⟩
      · obtain ⟨u7, xs, bs, rfl, k9, bx9, hl9, hb9, hv9, hps, hbs⟩ := z
        obtain ⟨rfl, e1⟩ := y
        rw [List.getElem?_map] at e1
        obtain ⟨v, e2, e3⟩ := Option.map_eq_some_iff.mp e1
        subst e3
        rw [List.length_map, nsl] at hi
        have hmul : i * tc k + tc k ≤ 3 * tc k := by
          have := Nat.mul_le_mul_right (tc k) (show i + 1 ≤ 3 by omega)
          rw [Nat.succ_mul] at this
          exact this
        refine ⟨_, rfl, .inl ⟨rfl, _, SqL.of hb9⟩, _, rfl, _, rfl, _, rfl, _, rfl, _, rfl, (bud : Int), 1 + (c0 : Int), rfl, rfl, ⟨by omega, by omega⟩, b, lf, cs.eraseIdx j, bud / (1 + c0), n + 7 + i * tc k, rfl, bx9, by omega, hlfb, hl9, fun c hc => cok c (List.mem_of_mem_eraseIdx hc), ?_, ?_, ?_, fun tv H11 d k11 bx11 tr => ⟨by rw [sizeLine_eq]; exact Nat.le_of_ble_eq_true rfl, fun t ht => ?_⟩⟩
        · rw [List.length_eraseIdx_of_lt hj]
          omega
        · rw [List.length_eraseIdx_of_lt hj]
          omega
        · exact Nat.le_trans (Nat.div_le_self ..) hb8
        have k12 := k11.trans (Ke.new (W := [b]) ht (o := .tup [V.int v, tv]))
        have hb12 := k12 _ _ hb9 (by simpa using hbrb)
        have hl12 := k12 _ _ hl9 (by simpa using hlfb)
        have hv12 := k12 _ _ hv9 (by simpa using hvlb)
        have bx12 := bx11.own (o := .tup [V.int v, tv]) ht
        have htr := tr.ke (Ke.new (W := []) ht (o := .tup [V.int v, tv])) Wok.nil
        have htt : SqT K (upd H11 t (.tup [V.int v, tv])) t [.int v, tv] := SqT.of upd_same
        have wb := bx9.wok
        have hps12 : Paired (BrV K (cs.eraseIdx j) m (upd H11 t (.tup [V.int v, tv]))) xs bs := Paired.mapP hps fun _ _ => BrV.ke k12 wb
        generalize upd H11 t (.tup [V.int v, tv]) = H12 at *
        have hxl := hps.length
        have hbl := congrArg List.length hbs
        rw [List.length_map, List.length_take] at hbl
        refine ⟨br, xs, .ref t, rfl, rfl, hb12, by rw [sizeLine_eq]; omega, ?_⟩
        have kb : Ke [br] H12 (upd H12 br (.lst (xs ++ [.ref t]))) := Ke.on (by simp)
        have wr : Wok [br] H12 := Wok.one (mut_lst hb12)
        refine ⟨_, xs ++ [.ref t], bs ++ [(v, d)], rfl, (k9.trans k12).own hbrH, ?_, by rw [upd_ne hbrl.symm]; exact hl12, upd_same, by rw [upd_ne hvlr]; exact hv12, ?_, ?_⟩
        · rw [Nat.succ_mul, ← Nat.add_assoc]
          exact bx12.ke kb (by simpa using hbrb.symm)
        · exact Paired.app (Paired.mapP hps12 fun _ _ => BrV.ke kb wr) (.cons ⟨t, tv, rfl, kb.sqt wr htt, htr.ke kb wr⟩ .nil)
        · rw [take_snoc e2, List.map_append, hbs]
          rfl
      · obtain ⟨u7, xs, bs, rfl, k9, bx9, hl9, hb9, hv9, hps, hbs⟩ := z
        rw [List.length_map, List.take_length] at hbs
        have hbl := congrArg List.length hbs
        rw [List.length_map, nsl] at hbl
        refine ⟨_, rfl, _, rfl, br, xs, rfl, SqL.of hb9, fun tb htb o ho => ⟨by rw [sizeLine_eq]; exact Nat.le_of_ble_eq_true rfl, fun a ha => ?_⟩⟩
        have k10 := (Ke.new (W := []) htb (o := .frz o (.tup xs))).trans (Ke.new ha (o := .tup [V.str cs[j], .ref tb]))
        have hdiv : (1 + c0) * (bud / (1 + c0)) ≤ bud := Nat.mul_div_le ..
        have hdp : 1 ≤ bud / (1 + c0) := (Nat.one_le_div_iff (by omega)).mpr hc0.2
        have hmm : m = bud / (1 + c0) := Nat.max_eq_right hdp
        have hmul : (ns.map V.int).length * tc k ≤ 3 * tc k := Nat.mul_le_mul_right _ (by rw [List.length_map]; omega)
        refine q _ _ _ (k9.trans k10.any) ((bx9.ke k10 (by simp)).mono (by omega)) (TrV.of_paired (k := j) (c := cs[j]) (m := m) (List.getElem?_eq_getElem hj) (by omega) ?_ (fun z => by rw [z] at hbl; simp only [List.length_nil] at hbl; omega) (by omega) (by rw [hbs]; exact vok) (SqT.of upd_same) ((Ke.new (W := []) ha).sqt Wok.nil frz_sqt) (Paired.mapP hps fun _ _ => BrV.ke k10 Wok.nil))
        rw [hbl, hmm]
        exact Nat.le_trans hdiv (Nat.le_max_right ..)
end
end RO

/-! text M4 -/
set_option Elab.async false
set_option linter.all false
set_option maxHeartbeats 1000000
/-! Plain: the leaves of a tree, taken one by one. -/
namespace RO
open PySem
structure Wt where
  cs : List Str
  n : Nat
  d : PyData
  l : Log
def Conf (l m : Log) : Prop := ∃ c v u, v ≠ u ∧ (c, v) ∈ l ∧ (c, u) ∈ m
theorem Conf.symm {l m : Log} (h : Conf l m) : Conf m l := let ⟨c, v, u, n, a, b⟩ := h; ⟨c, u, v, n.symm, b, a⟩
theorem Conf.mono {l l' m m' : Log} (h : Conf l m) (a : ∀ x ∈ l, x ∈ l') (b : ∀ x ∈ m, x ∈ m') : Conf l' m' := let ⟨c, v, u, n, p, q⟩ := h; ⟨c, v, u, n, a _ p, b _ q⟩
theorem nodup_val {l : Log} (n : (l.map (·.1)).Nodup) {c : Str} {v u : Int} (h1 : (c, v) ∈ l) (h2 : (c, u) ∈ l) : v = u := by
  induction l with
  | nil => simp at h1
  | cons p l ih =>
    have n2 := List.nodup_cons.mp n
    rcases List.mem_cons.mp h1 with e1 | e1 <;> rcases List.mem_cons.mp h2 with e2 | e2
    · rw [← e1] at e2
      exact ((Prod.mk.inj e2).2).symm
    · exact absurd (by rw [← e1]; exact List.mem_map_of_mem (f := (·.1)) e2) n2.1
    · exact absurd (by rw [← e2]; exact List.mem_map_of_mem (f := (·.1)) e1) n2.1
    · exact ih n2.2 e1 e2
theorem Conf.ne {l m : Log} (h : Conf l m) (n : (l.map (·.1)).Nodup) : l ≠ m := by
  rintro rfl
  obtain ⟨c, v, u, z, a, b⟩ := h
  exact z (nodup_val n a b)
structure WtOk (it : Wt) : Prop where
  nd : it.cs.Nodup
  ok : ∀ c ∈ it.cs, IsCell c
  ln : (it.l.map (·.1)).Nodup
  lok : ∀ p ∈ it.l, IsCell p.1 ∧ 0 ≤ p.2 ∧ p.2 ≤ 1000000000
  dis : ∀ c ∈ it.cs, c ∉ it.l.map (·.1)
  few : it.l.length + it.cs.length ≤ 5
  pos : 1 ≤ it.n
structure LvI (g : List Log) (ws : List Wt) : Prop where
  gwf : ∀ l ∈ g, WfLog l
  wok : ∀ it ∈ ws, WtOk it
  pw : (g ++ ws.map (·.l)).Pairwise Conf
  few : g.length + (ws.map (·.n)).sum ≤ 8
  ne : g ≠ [] ∨ ws ≠ []
def lvM (ws : List Wt) : Nat := (ws.map fun it => 4 ^ it.cs.length).sum
theorem LvI.start {cs : List Str} {n : Nat} {d : PyData} (nd : cs.Nodup) (ok : ∀ c ∈ cs, IsCell c) (hl : cs.length ≤ 5) (h1 : 1 ≤ n) (h8 : n ≤ 8) : LvI [] [⟨cs, n, d, []⟩] := by
  refine ⟨(fun _ h => nomatch h), fun it hit => ?_, by simp, by simp; exact h8, .inr (by simp)⟩
  rw [List.mem_singleton.mp hit]
  exact ⟨nd, ok, by simp, by simp, by simp, by simpa using hl, h1⟩
theorem LvI.leaf {g : List Log} {ws : List Wt} {it : Wt} {l : Log} (I : LvI g (ws ++ [it])) (w : WfLog l) (p : l.Perm it.l) : LvI (g ++ [l]) ws := by
  have hit := I.wok it (by simp)
  refine ⟨fun m hm => ?_, fun j hj => I.wok j (List.mem_append_left _ hj), ?_, ?_, .inl (by simp)⟩
  · rcases List.mem_append.mp hm with h | h
    · exact I.gwf m h
    · rw [List.mem_singleton.mp h]
      exact w
  · have h1 := I.pw
    rw [List.map_append, List.map_cons, List.map_nil, ← List.append_assoc] at h1
    have h2 : ((g ++ [it.l]) ++ ws.map (·.l)).Pairwise Conf := by
      refine (List.Perm.pairwise_iff (fun h => Conf.symm h) ?_).mp h1
      rw [List.append_assoc, List.append_assoc]
      exact List.Perm.append_left g List.perm_append_comm
    rw [List.pairwise_append, List.pairwise_append] at h2 ⊢
    obtain ⟨⟨a1, a2, a3⟩, b, c⟩ := h2
    refine ⟨⟨a1, by simp, fun x hx y hy => ?_⟩, b, fun x hx y hy => ?_⟩
    · rw [List.mem_singleton.mp hy]
      exact (a3 x hx it.l (by simp)).mono (fun _ h => h) fun z hz => p.mem_iff.mpr hz
    · rcases List.mem_append.mp hx with h | h
      · exact c x (List.mem_append_left _ h) y hy
      · rw [List.mem_singleton.mp h]
        exact (c it.l (by simp) y hy).mono (fun z hz => p.mem_iff.mpr hz) fun _ h => h
  · have h1 := I.few
    have h2 := hit.pos
    simp only [List.map_append, List.sum_append, List.map_cons, List.map_nil, List.sum_cons, List.sum_nil, List.length_append, List.length_singleton] at h1 ⊢
    omega
theorem lvM_leaf {ws : List Wt} {it : Wt} : lvM ws < lvM (ws ++ [it]) := by
  have : 0 < 4 ^ it.cs.length := Nat.pow_pos (by decide)
  simp only [lvM, List.map_append, List.sum_append, List.map_cons, List.map_nil, List.sum_cons, List.sum_nil]
  omega
theorem nodup_ix {α : Type} {l : List α} (n : l.Nodup) {i j : Nat} (hi : i < l.length) (hj : j < l.length) (e : l[i] = l[j]) : i = j := by
  rw [List.nodup_iff_pairwise_ne, List.pairwise_iff_getElem] at n
  rcases Nat.lt_trichotomy i j with h | h | h
  · exact absurd e (n i j hi hj h)
  · exact h
  · exact absurd e.symm (n j i hj hi h)
/-- the items that a node makes -/
def kids (it : Wt) (k m : Nat) (c : Str) (bs : List (Int × PyData)) : List Wt := bs.map fun q => ⟨it.cs.eraseIdx k, m, q.2, it.l ++ [(c, q.1)]⟩
theorem sum_const {α : Type} (f : α → Nat) (m : Nat) : ∀ l : List α, (∀ x ∈ l, f x = m) → (l.map f).sum = l.length * m
  | [], _ => by simp
  | x :: l, h => by
    have ih := sum_const f m l fun y hy => h y (List.mem_cons_of_mem _ hy)
    rw [List.map_cons, List.sum_cons, ih, h x (List.mem_cons_self ..), List.length_cons, Nat.succ_mul, Nat.add_comm]
theorem LvI.split {g : List Log} {ws : List Wt} {it : Wt} {k m : Nat} {c : Str} {bs : List (Int × PyData)} (I : LvI g (ws ++ [it])) (hk : it.cs[k]? = some c) (hm : 1 ≤ m) (hn : bs.length * m ≤ it.n) (hne : bs ≠ []) (vok : ValOk (bs.map (·.1))) :
    LvI g (ws ++ kids it k m c bs) := by
  have hit := I.wok it (by simp)
  have hkl := (List.getElem?_eq_some_iff.mp hk).1
  have hck := (List.getElem?_eq_some_iff.mp hk).2
  have hcm := List.mem_of_getElem? hk
  have cnot : c ∉ it.cs.eraseIdx k := by
    intro h
    rw [List.mem_eraseIdx_iff_getElem?] at h
    obtain ⟨i, hi, e⟩ := h
    have e1 := (List.getElem?_eq_some_iff.mp e)
    obtain ⟨h1, h2⟩ := e1
    exact hi (nodup_ix hit.nd h1 hkl (h2.trans hck.symm))
  refine ⟨I.gwf, fun j hj => ?_, ?_, ?_, ?_⟩
  · rcases List.mem_append.mp hj with h | h
    · exact I.wok j (List.mem_append_left _ h)
    · obtain ⟨q, hq, rfl⟩ := List.mem_map.mp h
      refine ⟨hit.nd.sublist (List.eraseIdx_sublist ..), fun d hd => hit.ok d (List.mem_of_mem_eraseIdx hd), ?_, fun p hp => ?_, fun d hd hd2 => ?_, ?_, hm⟩
      · show ((it.l ++ [(c, q.1)]).map (·.1)).Nodup
        rw [List.map_append, List.nodup_append]
        refine ⟨hit.ln, by simp, fun a ha b hb e => ?_⟩
        simp only [List.map_cons, List.map_nil, List.mem_singleton] at hb
        rw [e, hb] at ha
        exact hit.dis c hcm ha
      · rcases List.mem_append.mp hp with h | h
        · exact hit.lok p h
        · rw [List.mem_singleton.mp h]
          have := vok.2 q.1 (List.mem_map_of_mem hq)
          exact ⟨hit.ok c hcm, this⟩
      · rw [show (⟨it.cs.eraseIdx k, m, q.2, it.l ++ [(c, q.1)]⟩ : Wt).l = it.l ++ [(c, q.1)] from rfl, List.map_append] at hd2
        rcases List.mem_append.mp hd2 with h | h
        · exact hit.dis d (List.mem_of_mem_eraseIdx hd) h
        · simp only [List.map_cons, List.map_nil, List.mem_singleton] at h
          rw [h] at hd
          exact cnot hd
      · show (it.l ++ [(c, q.1)]).length + (it.cs.eraseIdx k).length ≤ 5
        rw [List.length_append, List.length_singleton, List.length_eraseIdx_of_lt hkl]
        have := hit.few
        omega
  · have h1 := I.pw
    rw [List.map_append, ← List.append_assoc, List.pairwise_append] at h1 ⊢
    obtain ⟨a, b, d⟩ := h1
    refine ⟨a, ?_, fun x hx y hy => ?_⟩
    · unfold kids
      rw [List.map_map, List.pairwise_map]
      have n := vok.1
      rw [List.nodup_iff_pairwise_ne, List.pairwise_map] at n
      refine n.imp fun {q r} h => ?_
      exact ⟨c, q.1, r.1, h, by simp, by simp⟩
    · unfold kids at hy
      rw [List.map_map] at hy
      obtain ⟨q, _, rfl⟩ := List.mem_map.mp hy
      exact (d x hx it.l (by simp)).mono (fun _ h => h) fun z hz => List.mem_append_left _ hz
  · have h1 := I.few
    have e : ((kids it k m c bs).map (·.n)).sum = bs.length * m := by
      unfold kids
      rw [List.map_map]
      exact sum_const _ m bs fun _ _ => rfl
    simp only [List.map_append, List.sum_append, List.map_cons, List.map_nil, List.sum_cons, List.sum_nil] at h1 ⊢
    omega
  · refine .inr fun z => ?_
    have := (List.append_eq_nil_iff.mp z).2
    unfold kids at this
    exact hne (List.map_eq_nil_iff.mp this)
theorem lvM_split {ws : List Wt} {it : Wt} {k m : Nat} {c : Str} {bs : List (Int × PyData)} (hk : it.cs[k]? = some c) (h3 : bs.length ≤ 3) : lvM (ws ++ kids it k m c bs) < lvM (ws ++ [it]) := by
  have hkl := (List.getElem?_eq_some_iff.mp hk).1
  have e : ((kids it k m c bs).map fun it => 4 ^ it.cs.length).sum = bs.length * 4 ^ (it.cs.length - 1) := by
    unfold kids
    rw [List.map_map]
    exact sum_const _ _ bs fun _ _ => by
      show 4 ^ (it.cs.eraseIdx k).length = _
      rw [List.length_eraseIdx_of_lt hkl]
  have e2 : 4 ^ it.cs.length = 4 ^ (it.cs.length - 1) * 4 := by rw [← Nat.pow_succ]; congr 1; omega
  have hp : 0 < 4 ^ (it.cs.length - 1) := Nat.pow_pos (by decide)
  have hm := Nat.mul_le_mul_right (4 ^ (it.cs.length - 1)) h3
  simp only [lvM, List.map_append, List.sum_append, List.map_cons, List.map_nil, List.sum_cons, List.sum_nil, e]
  omega
theorem LvI.done {g g' : List Log} (I : LvI g []) (p : g'.Perm g) : Fam g' ∧ g'.length ≤ 8 ∧ g' ≠ [] := by
  have h1 := I.pw
  rw [List.map_nil, List.append_nil] at h1
  refine ⟨⟨p.nodup_iff.mpr ?_, fun l hl => I.gwf l (p.mem_iff.mp hl)⟩, ?_, ?_⟩
  · rw [List.nodup_iff_pairwise_ne]
    exact h1.imp_of_mem fun {a b} ha _ h => h.ne (I.gwf a ha).nodup
  · have := I.few
    rw [p.length_eq]
    simp at this
    omega
  · rintro rfl
    rcases I.ne with h | h
    · exact h (p.symm.eq_nil)
    · exact h rfl
theorem LvI.wlen {g : List Log} {ws : List Wt} (I : LvI g ws) : g.length ≤ 8 ∧ ws.length ≤ 8 := by
  have h : ∀ l : List Wt, (∀ it ∈ l, WtOk it) → l.length ≤ (l.map (·.n)).sum := by
    intro l
    induction l with
    | nil => intro _; simp
    | cons it l ih =>
      intro h
      have := ih fun j hj => h j (List.mem_cons_of_mem _ hj)
      have := (h it (List.mem_cons_self ..)).pos
      simp only [List.length_cons, List.map_cons, List.sum_cons]
      omega
  have h1 := h ws I.wok
  have h2 := I.few
  omega
end RO

/-! text E7 -/
set_option Elab.async false
set_option linter.all false
set_option maxRecDepth 100000
set_option maxHeartbeats 1000000
namespace RO
open PySem PySem.Spec PyProof.Rows L2
/-- a tree that waits, and the pairs above it -/
def WtV (K : PySem.W.Frag) (H : Hp) (x : V) (it : Wt) : Prop := ∃ t tv pa ps, x = .ref t ∧ SqT K H t [tv, .ref pa] ∧ TrV K H it.cs it.n tv it.d ∧ SqT K H pa ps ∧ Paired (PairV K H) ps it.l
section
variable {K : PySem.W.Frag} {H H' : Hp} {W : List Addr}
theorem Ke.wt (k : Ke W H H') (w : Wok W H) {x : V} {it : Wt} : WtV K H x it → WtV K H' x it := fun ⟨t, tv, pa, ps, e, h1, h2, h3, h4⟩ => ⟨t, tv, pa, ps, e, k.sqt w h1, h2.ke k w, k.sqt w h3, Paired.mapP h4 fun _ _ => k.pair w⟩
theorem stab_wt : Stab (WtV K) := fun D acc H H' v y h k => k.wt (Wok.one (mut_lst h))
def eW (it : Wt) : PyData := .tuple [it.d, eL it.l]
theorem WtV.dp {x : V} {it : Wt} (h : WtV K H x it) : Dp K H x (eW it) := by
  obtain ⟨t, tv, pa, ps, rfl, h1, h2, h3, h4⟩ := h
  exact .tup h1 (.cons h2.dp (.cons (.tup h3 (pairs_dp h4)) .nil))
theorem wts_dp : ∀ {xs : List V} {ws : List Wt}, Paired (WtV K H) xs ws → DpAll K H xs (ws.map eW)
  | _, _, .nil => .nil
  | _, _, .cons h t => .cons h.dp (wts_dp t)
theorem lay_pairs {l : Log} (h : ∀ p ∈ l, IsCell p.1) : PyData.canLay0 (eL l) = true := by
  have h := layAll eP l fun p hp => lay_eP (h p hp)
  simp [eL, PyData.canLay0, h]
theorem lay_wts : ∀ {xs : List V} {ws : List Wt}, Paired (WtV K H) xs ws → (∀ it ∈ ws, WtOk it) → PyData.canLayAll0 (ws.map eW) = true
  | _, _, .nil, _ => by simp [PyData.canLayAll0]
  | _, _, .cons h t, k => by
    have ih := lay_wts t fun it hit => k it (List.mem_cons_of_mem _ hit)
    have ok := k _ (List.mem_cons_self ..)
    obtain ⟨_, tv, _, _, _, _, h2, _, _⟩ := h
    have a := h2.lay ok.ok
    have b := lay_pairs fun p hp => (ok.lok p hp).1
    simp [PyData.canLayAll0, PyData.canLay0, eW, a, b, ih]
end
section
variable {P : Program} {w : World} {K : PySem.W.Frag} {mg : Str → Option Value} {base : Heap}
/-! ### _law_leaves -/
def spLeaves (K : PySem.W.Frag) : Sp := fun vs H Q _ => ∃ (v : V) (cs : List Str) (n : Nat) (d : PyData), vs = [v] ∧ TrV K H cs n v d ∧ cs.Nodup ∧ (∀ c ∈ cs, IsCell c) ∧ cs.length ≤ 5 ∧ n ≤ 8 ∧
  ∀ v H' g, Ke [] H H' → GIn K H' v g → g.length ≤ 8 → g ≠ [] → Q v H'
theorem sc_Leaves : FnScope ["_law_tree_here", "_law_found", "_law_waiting", "_law_here", "_law_pairs", "_law_value", "_law_below"] ["_law_tree_here"] (defScope sLawLeaves) := ⟨rfl, rfl, rfl, by decide +kernel, rfl, by decide +kernel, by decide +kernel⟩
theorem ok_leaves (T : Tx K mg) : C8.Cal P w K mg base 1 "_law_leaves" (spLeaves K) [] := by
  obtain ⟨fd, F⟩ := T.d__law_leaves
  refine mk_cal F T.g__law_leaves sc_Leaves (fun _ _ _ _ _ _ us hl => match us, hl with | [_], _ => rfl) (fun vs H Q E h => ?_) (fun cdv A outer s H vs Q E hr h => ?_)
  · obtain ⟨v, cs, n, d, rfl, _⟩ := h
    rfl
  · obtain ⟨v, cs, n, d, rfl, tr, nd, cok, cl, h8, q⟩ := h
    refine ⟨_, pss_cons (ps_par (i := 1) (j := 2) rfl sc_Leaves.nd rfl rfl (by decide) rfl rfl (pa_cons (pe_lst pa_nil) (pa_cons (pe_lst (pa_cons (pe_tup (pa_cons (pv 0) (pa_cons (pe_tup pa_nil) pa_nil))) pa_nil)) pa_nil)) (by rfl))
      (pss_cons (ps_while PassesOwn.never (pt_cmpR (op_neM hr) (pv 2) (pe_lst pa_nil) (nomark _))
        (pss_cons (ps_asg (pe_bm0 PySem.F.plainAttrs_list PySem.F.slot_list_pop PySem.F.type_list_pop mt_pop (pv 2)) (pg_tup rfl (pgs_cons (pg_name (i := 3) sc_Leaves.nd rfl (Or.inr rfl)) (pgs_cons (pg_name (i := 4) sc_Leaves.nd rfl (Or.inr rfl)) pgs_nil))))
        (pss_one (ps_if (pt_cmpR (op_eqM hr) (pv 3) (pe_tup pa_nil) (nomark _))
          (pss_one (ps_expr (pe_bm PySem.F.plainAttrs_list PySem.F.slot_list_append PySem.F.type_list_append mt_append (pv 1) (pa_cons (pe_callTy call_tupF (by rfl) T.b_tuple boot_tuple (pa_cons (pe_callB (cr_sortedPr hr) (by rfl) T.b_sorted boot_sorted (pa_cons (pv 4) pa_nil)) pa_nil)) pa_nil))))
          (pss_one (ps_expr (pe_bm PySem.F.plainAttrs_list PySem.F.slot_list_extend PySem.F.type_list_extend mt_extend (pv 2) (pa_cons
            (pe_lc (own := [("_law_value", 5), ("_law_below", 6)]) (g := gTup K 2 (gCons (gName 5) (gCons (gName 6) gNil))) (tt := tYes)
              (te := tTup (tCons (tVar 6) (tCons (tOp (rCatN K) (tVar 4) (tTup (tCons (tTup (tCons (tOp (rIxT K) (tVar 3) (tC (.int 0))) (tCons (tVar 5) tNil))) tNil))) tNil))) rfl sc_Leaves.nd (pi_tup (pe_ix ix_tup (pv 3) pe_int (fun _ _ => rfl)))
            (blkOk_by (own := [("_law_value", 5), ("_law_below", 6)]) (N := ["_law_tree_here", "_law_found", "_law_waiting", "_law_here", "_law_pairs", "_law_value", "_law_below"]) (sc := defScope sLawLeaves) (by decide +kernel))
            (fun _ _ _ _ _ => pg_tup rfl (pgs_cons (pg_name (i := 5) sc_Leaves.nd rfl (Or.inl rfl)) (pgs_cons (pg_name (i := 6) sc_Leaves.nd rfl (Or.inl rfl)) pgs_nil))) (fun _ _ _ _ _ => pts_nil)
            (fun _ _ _ _ _ => pe_tup (pa_cons (pv 6) (pa_cons (pe_op op_catN (pv 4) (pe_tup (pa_cons (pe_tup (pa_cons (pe_ix (ixT K) (pv 3) pe_int (fun _ _ => rfl)) (pa_cons (pv 5) pa_nil))) pa_nil))) pa_nil)))) pa_nil))))))))
      (pss_one (ps_ret (pe_callTy call_tupF (by rfl) T.b_tuple boot_tuple (pa_cons (pe_callB (cr_sortedG hr) (by rfl) T.b_sorted boot_sorted (pa_cons (pv 1) pa_nil)) pa_nil))))), ?_⟩
    refine ⟨Nat.zero_le _, fun f hf0 => ⟨_, rfl, Nat.zero_le _, fun e he => ⟨by rw [sizeLine_eq]; exact Nat.le_of_ble_eq_true rfl, fun t ht => ⟨by rw [sizeLine_eq]; exact Nat.le_of_ble_eq_true rfl, fun wa hwa => ⟨_, _, rfl, ?_⟩⟩⟩⟩⟩
    have k1 : Ke [] H (upd H f (.lst [])) := Ke.new hf0
    have hf1 : (upd H f (.lst [])) f = some (.lst []) := upd_same
    generalize upd H f (.lst []) = H1 at *
    have k2 : Ke [] H1 (upd H1 e (.tup [])) := Ke.new he
    have he2 : SqT K (upd H1 e (.tup [])) e [] := SqT.of upd_same
    generalize upd H1 e (.tup []) = H2 at *
    have k3 : Ke [] H2 (upd H2 t (.tup [v, .ref e])) := Ke.new ht
    have ht3 : SqT K (upd H2 t (.tup [v, .ref e])) t [v, .ref e] := SqT.of upd_same
    generalize upd H2 t (.tup [v, .ref e]) = H3 at *
    have k4 : Ke [] H3 (upd H3 wa (.lst [.ref t])) := Ke.new hwa
    have hw4 : (upd H3 wa (.lst [.ref t])) wa = some (.lst [.ref t]) := upd_same
    have k04 := ((k1.trans k2).trans k3).trans k4
    have hwH : H wa = none := ((k1.trans k2).trans k3).same.free hwa
    have hf3 := ((k2.trans k3).trans k4).same _ _ hf1
    have hfw : f ≠ wa := by
      rintro rfl
      have := (k2.trans k3).same _ _ hf1
      rw [this] at hwa
      cases hwa
    have hwt : WtV K (upd H3 wa (.lst [.ref t])) (.ref t) ⟨cs, n, d, []⟩ := ⟨t, v, e, [], rfl, k4.sqt Wok.nil ht3, tr.ke k04 Wok.nil, (k3.trans k4).sqt Wok.nil he2, .nil⟩
    generalize upd H3 wa (.lst [.ref t]) = H4 at *
    have hfH : H f = none := hf0
    refine ⟨fun m σ H5 => ∃ u3 u4 fs g xs ws, σ = [some v, some (.ref f), some (.ref wa), u3, u4, none, none] ∧ Ke [] H H5 ∧ H5 f = some (.lst fs) ∧ H5 wa = some (.lst xs) ∧ LogsV K H5 fs g ∧ Paired (WtV K H5) xs ws ∧ LvI g ws ∧ lvM ws = m,
      ⟨_, none, none, [], [], [.ref t], [⟨cs, n, d, []⟩], rfl, k04, hf3, hw4, .nil, .cons hwt .nil, LvI.start nd cok cl tr.pos h8, rfl⟩, ?_⟩
    rintro m σ H5 ⟨u3, u4, fs, g, xs, ws, rfl, k5, hf5, hw5, hg5, hws, I, rfl⟩
    have wl := I.wlen
    refine ⟨_, rfl, Nat.zero_le _, fun e0 he0 => ?_⟩
    have k6 : Ke [] H5 (upd H5 e0 (.lst [])) := Ke.new he0
    have he6 : (upd H5 e0 (.lst [])) e0 = some (.lst []) := upd_same
    have hw6 := k6.same _ _ hw5
    have hf6 := k6.same _ _ hf5
    have hws6 : Paired (WtV K (upd H5 e0 (.lst []))) xs ws := Paired.mapP hws fun _ _ => k6.wt Wok.nil
    have hg6 := k6.logs Wok.nil hg5
    have k06 := k5.trans k6
    generalize upd H5 e0 (.lst []) = H6 at *
    refine ⟨.list (ws.map eW), .list [], .lst (SqL.of hw6) (wts_dp hws6), .lst (SqL.of he6) .nil, by simp [PyData.canLay0, lay_wts hws6 I.wok], by simp [PyData.canLay0, PyData.canLayAll0], by simp [PyData.depth, PyData.depthAll], _, rfl, ?_⟩
    by_cases hwe : ws = []
    · subst hwe
      refine ite_f (by simp [PyData.eqv, PyData.eqvAll]) ?_
      refine ⟨_, rfl, f, fs, g, rfl, .inl (SqL.of hf6), hg6, fun p xs' g' hp0 hxs pm _ => ?_⟩
      refine ⟨p, xs', rfl, SqL.of upd_same, fun r hr0 o ho => ?_⟩
      have k7 := (Ke.new hp0 (W := []) (o := .lst xs')).trans (Ke.new hr0 (o := .frz o (.tup xs')))
      obtain ⟨fm, g8, gne⟩ := I.done pm
      exact q _ _ g' (k06.trans k7) ⟨⟨r, xs', rfl, frz_sqt, k7.logs Wok.nil hxs⟩, fm.nd, fm.wf, by omega⟩ g8 gne
    · have hwl : 0 < ws.length := List.length_pos_iff.mpr hwe
      have hxl := hws6.length
      refine ite_t (by
        cases ws with
        | nil => exact absurd rfl hwe
        | cons B r => simp [PyData.eqv, PyData.eqvAll]) ⟨fun σ' H' => ∃ m', m' < lvM ws ∧ _, fun _ _ h => h, ?_⟩
      have hi : xs.length - 1 < xs.length := by omega
      have e1 : xs[xs.length - 1]? = some xs[xs.length - 1] := List.getElem?_eq_getElem hi
      obtain ⟨it, e2, hB⟩ := Paired.get hws6 _ _ e1
      rw [hxl] at e2
      have ewg : ws = ws.take (ws.length - 1) ++ [it] := by
        rw [← take_snoc e2, List.take_of_length_le (by omega)]
      have hwt : Paired (WtV K H6) xs.dropLast (ws.take (ws.length - 1)) := by
        rw [List.dropLast_eq_take, hxl]
        exact Paired.take _ hws6
      generalize hW : ws.take (ws.length - 1) = wt at *
      subst ewg
      have hit := I.wok it (by simp)
      refine ⟨_, rfl, .inl ⟨rfl, _, SqL.of hw6⟩, wa, xs, _, rfl, rfl, hw6, e1, ?_⟩
      have k7 : Ke [] H (upd H6 wa (.lst xs.dropLast)) := k06.own hwH
      have kw : Ke [wa] H6 (upd H6 wa (.lst xs.dropLast)) := Ke.on (by simp)
      have ww : Wok [wa] H6 := Wok.one (mut_lst hw6)
      have hB7 := kw.wt ww hB
      have hwt7 : Paired (WtV K (upd H6 wa (.lst xs.dropLast))) xs.dropLast wt := Paired.mapP hwt fun _ _ => kw.wt ww
      have hg7 := kw.logs ww hg6
      have hf7 : (upd H6 wa (.lst xs.dropLast)) f = some (.lst fs) := by rw [upd_ne hfw]; exact hf6
      have hw7 : (upd H6 wa (.lst xs.dropLast)) wa = some (.lst xs.dropLast) := upd_same
      generalize upd H6 wa (.lst xs.dropLast) = H7 at *
      obtain ⟨tt, tv, pa, ps, ex, hs1, htr, hs2, hps⟩ := hB7
      rw [ex]
      refine ⟨tt, _, rfl, hs1, rfl, _, _, rfl, _, _, rfl, rfl, ?_⟩
      refine ⟨_, rfl, Nat.zero_le _, fun e8 he8 => ?_⟩
      have k8 : Ke [] H7 (upd H7 e8 (.tup [])) := Ke.new he8
      have hs8 : SqT K (upd H7 e8 (.tup [])) e8 [] := SqT.of upd_same
      have htr8 := htr.ke k8 Wok.nil
      have hf8 := k8.same _ _ hf7
      have hw8 := k8.same _ _ hw7
      have hg8 := k8.logs Wok.nil hg7
      have hwt8 : Paired (WtV K (upd H7 e8 (.tup []))) xs.dropLast wt := Paired.mapP hwt7 fun _ _ => k8.wt Wok.nil
      have hs28 := k8.sqt Wok.nil hs2
      have hps8 : Paired (PairV K (upd H7 e8 (.tup []))) ps it.l := Paired.mapP hps fun _ _ => k8.pair Wok.nil
      have k08 := k7.trans k8
      generalize upd H7 e8 (.tup []) = H8 at *
      have hit5 := hit.few
      have hpl := hps8.length
      have hgl := hg8.length
      rw [List.length_append, List.length_singleton] at wl
      refine ⟨it.d, .tuple [], htr8.dp, .tup hs8 .nil, htr8.lay hit.ok, by simp [PyData.canLay0, PyData.canLayAll0], Nat.le_trans (Nat.min_le_right ..) (by simp [PyData.depth, PyData.depthAll]), _, rfl, ?_⟩
      cases hd : it.d with
      | tuple ds =>
        cases ds with
        | nil =>
          refine ite_t (by simp [PyData.eqv, PyData.eqvAll]) ?_
          refine ⟨_, rfl, .inl ⟨rfl, _, SqL.of hf8⟩, _, rfl, pa, ps, it.l, rfl, .inr hs28, hps8, fun p3 xs' l' hp3 hxs pm srt => ?_⟩
          refine ⟨p3, xs', rfl, SqL.of upd_same, fun r hr o ho => ?_⟩
          have wlg : WfLog l' := wf_of pm srt hit.ln hit.lok (by omega)
          have k9 := (Ke.new (W := []) hp3 (o := .lst xs')).trans (Ke.new hr (o := .frz o (.tup xs')))
          have hl9 : LogV K (upd (upd H8 p3 (.lst xs')) r (.frz o (.tup xs'))) (.ref r) l' := ⟨r, o, xs', rfl, ho, upd_same, Paired.mapP hxs fun _ _ => k9.pair Wok.nil⟩
          have hf9 := k9.same _ _ hf8
          have hw9 := k9.same _ _ hw8
          have hg9 := k9.logs Wok.nil hg8
          have hwt9 : Paired (WtV K (upd (upd H8 p3 (.lst xs')) r (.frz o (.tup xs')))) xs.dropLast wt := Paired.mapP hwt8 fun _ _ => k9.wt Wok.nil
          have k09 := k08.trans k9
          generalize upd (upd H8 p3 (.lst xs')) r (.frz o (.tup xs')) = H9 at *
          refine ⟨f, fs, .ref r, rfl, rfl, hf9, by rw [sizeLine_eq]; omega, ?_⟩
          have kf : Ke [f] H9 (upd H9 f (.lst (fs ++ [.ref r]))) := Ke.on (by simp)
          have wf9 : Wok [f] H9 := Wok.one (mut_lst hf9)
          refine ⟨lvM wt, lvM_leaf, _, _, fs ++ [.ref r], g ++ [l'], xs.dropLast, wt, rfl, k09.own hfH, upd_same, by rw [upd_ne hfw.symm]; exact hw9, ?_, Paired.mapP hwt9 fun _ _ => kf.wt wf9, I.leaf wlg pm, rfl⟩
          exact Paired.app (kf.logs wf9 hg9) (.cons (kf.log wf9 hl9) .nil)
        | cons d0 dr =>
          refine ite_f (by simp [PyData.eqv, PyData.eqvAll]) ?_
          rw [hd] at htr8
          cases htr8 with
          | @node _ _ m k c a b bxs bs ts us h1 h2 h3 h4 h5 h6 g7 g8 g9 g10 g11 =>
          refine ⟨_, rfl, .inl ⟨rfl, _, SqL.of hw8⟩, ?_⟩
          refine ⟨_, rfl, a, _, 1, _, rfl, rfl, g7, atI_nat (j := 1) rfl, b, rfl, ⟨_, g8⟩, fun D hD => lc_ac walk_tup (AcP (WtV K) (kids it k m c bs) H8) (AcP.zero hD) (fun i acc H9 _ _ z => z.2.sqt Wok.nil g8) (fun i x acc H9 H10 hi2 hd2 hl2 z y => ?_) (fun acc H9 hd2 hl2 z => ?_)⟩
          · obtain ⟨rfl, e3⟩ := y
            have hib : i < bs.length := by omega
            have e4 : bs[i]? = some bs[i] := List.getElem?_eq_getElem hib
            obtain ⟨e5, e6⟩ := g10 i _ e4
            rw [e3] at e5
            cases e5
            refine ⟨_, _, rfl, z.2.sqt Wok.nil e6, rfl, _, _, rfl, _, _, rfl, rfl, rfl, yes_ite ?_⟩
            refine ⟨_, rfl, _, rfl, _, rfl, a, _, 0, _, rfl, rfl, z.2.sqt Wok.nil g7, atI_nat (j := 0) rfl, _, rfl, by rw [sizeLine_eq]; exact Nat.le_of_ble_eq_true rfl, fun p1 hp1 => ⟨by rw [sizeLine_eq]; exact Nat.le_of_ble_eq_true rfl, fun p2 hp2 => ?_⟩⟩
            have j1 := Ke.new (W := []) hp1 (o := .tup [V.str c, V.int bs[i].1])
            have j2 := Ke.new (W := []) hp2 (o := .tup [V.ref p1])
            have j3 := z.2.trans (j1.trans j2)
            refine ⟨pa, p2, ps, [.ref p1], rfl, rfl, j3.sqt Wok.nil hs28, SqT.of upd_same, by rw [List.length_singleton]; omega, fun p3 H11 j4 hp3 => ⟨by rw [sizeLine_eq]; exact Nat.le_of_ble_eq_true rfl, fun p4 hp4 => ?_⟩⟩
            have j5 := Ke.new (W := []) hp4 (o := .tup [us i, .ref p3])
            have j15 := ((j1.trans j2).trans j4).trans j5
            have j25 := (j2.trans j4).trans j5
            refine AcP.more stab_wt hD hd2 hl2 (by omega) z j15 (y := ⟨it.cs.eraseIdx k, m, bs[i].2, it.l ++ [(c, bs[i].1)]⟩) (by unfold kids; rw [List.getElem?_map, e4]; rfl) ?_
            exact ⟨p4, us i, p3, _, rfl, SqT.of upd_same, (g11 i _ e4).ke (z.2.trans j15) Wok.nil, j5.sqt Wok.nil hp3, Paired.app (Paired.mapP hps8 fun _ _ => (z.2.trans j15).pair Wok.nil) (.cons ⟨p1, rfl, j25.sqt Wok.nil (SqT.of upd_same)⟩ .nil)⟩
          · have hac := z.fin (by unfold kids; rw [List.length_map, g9]; exact Nat.le_refl _)
            have hw9 := z.2.same _ _ hw8
            have hf9 := z.2.same _ _ hf8
            have hg9 := z.2.logs Wok.nil hg8
            have hwt9 : Paired (WtV K H9) xs.dropLast wt := Paired.mapP hwt8 fun _ _ => z.2.wt Wok.nil
            have hacl := hac.length
            have hkl : (kids it k m c bs).length = bs.length := List.length_map ..
            have hwl9 := hwt9.length
            refine ⟨wa, D, xs.dropLast, acc, rfl, rfl, hw9, hd2, by rw [sizeLine_eq]; omega, ?_⟩
            have kf : Ke [wa] H9 (upd H9 wa (.lst (xs.dropLast ++ acc))) := Ke.on (by simp)
            have wf9 : Wok [wa] H9 := Wok.one (mut_lst hw9)
            exact ⟨lvM (wt ++ kids it k m c bs), lvM_split h1 h5, _, _, fs, g, _, wt ++ kids it k m c bs, rfl, (k08.trans z.2).own hwH, by rw [upd_ne hfw]; exact hf9, upd_same, kf.logs wf9 hg9, Paired.app (Paired.mapP hwt9 fun _ _ => kf.wt wf9) (Paired.mapP hac fun _ _ => kf.wt wf9), I.split h1 h2 h3 h4 h6, rfl⟩
      | _ =>
        rw [hd] at htr8
        cases htr8
end
end RO

/-! text P6 -/
set_option Elab.async false
set_option linter.all false
set_option maxRecDepth 100000
set_option maxHeartbeats 1000000
/-! A list or a tuple: walked, indexed. -/
namespace RO
open PySem PySem.Spec PyProof.Rows L2
def Sq (K : PySem.W.Frag) (H : Hp) (a : Addr) (xs : List V) : Prop := SqL K H a xs ∨ SqT K H a xs
theorem Ke.sq {K : PySem.W.Frag} {W : List Addr} {H H' : Hp} {a : Addr} {xs : List V} (k : Ke W H H') (w : Wok W H) (ha : a ∉ W) (h : Sq K H a xs) : Sq K H' a xs := by
  rcases h with h | h
  · rcases h with (h | ⟨o, h⟩) | h
    · exact .inl (.inl (.inl (k _ _ h ha)))
    · exact .inl (.inl (.inr ⟨o, k _ _ h ha⟩))
    · exact .inl (.inr h)
  · exact .inr (k.sqt w h)
def iSq (K : PySem.W.Frag) (t : TE) : TI := fun σ H R => t σ H fun x H1 => ∃ a xs H0, x = .ref a ∧ Sq K H0 a xs ∧ Ke [] H0 H1 ∧ ∀ (J : It) (G : Hp → Prop), Walk J xs.length G (YAt xs) → (∀ W H', Ke W H0 H' → Wok W H0 → (SqT K H0 a xs ∨ a ∉ W) → G H') → R J H1
section
variable {X : Cx} {tg : Expr}
theorem pi_sq {l : Expr} {tl : TE} (hl : PE X l tl) : PI X tg l (iSq X.K tl) := by
  refine ⟨fun pins s σ H R I h => ?_⟩
  refine thn (hl.run pins s σ H _ I h) fun v s1 ⟨x, H1, I1, r1, q1⟩ => ?_
  obtain ⟨a, xs, H0, e, hq, k0, q⟩ := q1
  subst e
  cases r1
  by_cases hT : SqT X.K H0 a xs
  · have q2 := q (Itt X.K a) (fun H => SqT X.K H a xs) walk_tup (fun W H' k w ha => k.sqt w hT)
    obtain ⟨its, rv, p, hz⟩ := I1.tuple (k0.sqt Wok.nil hT)
    refine wpAny_pyIter_tuple (show s1.heap.IsTuple a its.toArray from p) ?_
    refine ⟨s1.heap.objs.size, [s1.heap.objs.size], _, _, H1, rfl, I1.kept (t' := s1.toks) fun b o e => Heap.get?_push_of_some _ e, turn_tuple a _, ⟨_, Heap.get?_push_size _ rfl, rfl, rfl⟩, fun b hb => ?_, q2⟩
    have e : b = s1.heap.objs.size := by simpa using hb
    subst e
    exact I1.fpOk (Nat.le_refl _) (I1.hok.fresh (Nat.le_refl _))
  · replace hq : SqL X.K H0 a xs := hq.elim id fun z => absurd z hT
    have q2 := q (Itl X.K a) (fun H => SqL X.K H a xs) walk_list (fun W H' k w ha => by
      replace ha : a ∉ W := ha.elim (fun z => absurd z hT) id
      rcases hq with (h | ⟨o, h⟩) | h
      · exact .inl (.inl (k _ _ h ha))
      · exact .inl (.inr ⟨o, k _ _ h ha⟩)
      · exact .inr h)
    obtain ⟨its, rv, p, hz⟩ := I1.list (k0.sql hq)
    refine wpAny_pyIter_list p.isList ?_
    refine ⟨s1.heap.objs.size, [s1.heap.objs.size], _, _, H1, rfl, I1.kept (t' := s1.toks) fun b o e => Heap.get?_push_of_some _ e, turn_list a _, ⟨_, Heap.get?_push_size _ rfl, rfl, rfl⟩, fun b hb => ?_, q2⟩
    have e : b = s1.heap.objs.size := by simpa using hb
    subst e
    exact I1.fpOk (Nat.le_refl _) (I1.hok.fresh (Nat.le_refl _))
end
def rIxSq (K : PySem.W.Frag) : R2 := fun x y H Q => ∃ p xs i v, x = .ref p ∧ y = .int i ∧ Sq K H p xs ∧ atI xs i = some v ∧ Q v H
theorem ix_sq {X : Cx} : IxR X (rIxSq X.K) := by
  intro value slice pins s σ H x y v u Q I rx ry h hs
  obtain ⟨p, xs, i, w, rfl, rfl, hq | hq, ha, q⟩ := h
  · exact ix_list value slice pins s σ H _ _ v u Q I rx ry ⟨p, xs, i, w, rfl, rfl, hq, ha, q⟩ hs
  · exact ix_tup value slice pins s σ H _ _ v u Q I rx ry ⟨p, xs, i, w, rfl, rfl, hq, ha, q⟩ hs
theorem ixSqK {X : Cx} (K : PySem.W.Frag) (h : X.K = K := by rfl) : IxR X (rIxSq K) := h ▸ ix_sq
/-- logs in a list or a tuple -/
def GrpS (K : PySem.W.Frag) (H : Hp) (v : V) (g : List Log) : Prop := ∃ a xs, v = .ref a ∧ Sq K H a xs ∧ LogsV K H xs g
theorem GrpT.s {K : PySem.W.Frag} {H : Hp} {v : V} {g : List Log} (h : GrpT K H v g) : GrpS K H v g := let ⟨a, xs, e, s, l⟩ := h; ⟨a, xs, e, .inr s, l⟩
end RO

/-! text E8 -/
set_option Elab.async false
set_option linter.all false
set_option maxRecDepth 100000
set_option maxHeartbeats 1000000
namespace RO
open PySem PySem.Spec PyProof.Rows L2
theorem paired_erase {α β : Type} {F : α → β → Prop} {xs : List α} {ys : List β} (j : Nat) (h : Paired F xs ys) : Paired F (xs.eraseIdx j) (ys.eraseIdx j) := by
  rw [List.eraseIdx_eq_take_drop_succ, List.eraseIdx_eq_take_drop_succ]
  exact Paired.app (Paired.take j h) (Paired.drop (j + 1) h)
theorem erase_perm {α : Type} : ∀ (l : List α) (j : Nat) (x : α), l[j]? = some x → (x :: l.eraseIdx j).Perm l
  | [], _, _, h => by simp at h
  | a :: l, 0, x, h => by
    have : a = x := by simpa using h
    rw [this]
    exact .refl _
  | a :: l, j + 1, x, h => by
    have ih := erase_perm l j x (by simpa using h)
    exact (List.Perm.swap a x _).trans (ih.cons a)
section
variable {P : Program} {w : World} {K : PySem.W.Frag} {mg : Str → Option Value} {base : Heap}
/-! ### _law_good -/
def spGood (K : PySem.W.Frag) : Sp := fun vs H Q _ => ∃ (b : Addr) (n : Nat), vs = [.ref b] ∧ BoxV H b n ∧ n ≤ 800000 ∧ ∀ v H' g, Ke [b] H H' → BoxV H' b (n + 9000) → GIn K H' v g → g.length ≤ 8 → g ≠ [] → Q v H'
theorem sc_Good : FnScope ["_law_box_here", "_law_cells_here"] ["_law_box_here"] (defScope sLawGood) := ⟨rfl, rfl, rfl, by decide +kernel, rfl, by decide +kernel, by decide +kernel⟩
theorem ok_good (T : Tx K mg) : C8.Cal P w K mg base 11 "_law_good" (spGood K) [] := by
  obtain ⟨fd, F⟩ := T.d__law_good
  have c1 : C8.Cal P w K mg base 1 "_law_take" spTake [] := ok_take T
  have c2 : C8.Cal P w K mg base 3 "_law_cells" (spCells K) [] := ok_cells T
  have c3 : C8.Cal P w K mg base 3 "_law_product" (spProd K) [] := ok_prod T
  have c4 : C8.Cal P w K mg base 10 "_law_tree" (spTree K 6) [] := ok_tree T 6
  have c5 : C8.Cal P w K mg base 1 "_law_leaves" (spLeaves K) [] := ok_leaves T
  refine mk_cal F T.g__law_good sc_Good (fun _ _ _ _ _ _ us hl => match us, hl with | [_], _ => rfl) (fun vs H Q E h => ?_) (fun cdv A outer s H vs Q E hr h => ?_)
  · obtain ⟨b, n, rfl, _⟩ := h
    rfl
  · obtain ⟨b, n, rfl, bx, hn, q⟩ := h
    refine ⟨_, pss_cons (ps_set sc_Good.nd (i := 1) rfl (Or.inl rfl) (C8.pe_c c2 hr (by omega) (by rfl) (pa_cons (pv 0) (pa_cons (pe_op op_add pe_int (C8.pe_c c1 hr (by omega) (by rfl) (pa_cons (pv 0) (pa_cons pe_int pa_nil)))) pa_nil))))
      (pss_cons (ps_if (pt_cmpR op_eq (C8.pe_c c1 hr (by omega) (by rfl) (pa_cons (pv 0) (pa_cons pe_int pa_nil))) pe_int (nomark _)) (pss_one (ps_ret (C8.pe_c c3 hr (by omega) (by rfl) (pa_cons (pv 0) (pa_cons (pe_slice sl_list (pv 1) po_none (po_some pe_int)) pa_nil))))) pss_nil)
      (pss_one (ps_ret (C8.pe_c c5 hr (by omega) (by rfl) (pa_cons (C8.pe_c c4 hr (Nat.le_refl _) (by rfl) (pa_cons (pv 0) (pa_cons (pv 1) (pa_cons pe_int pa_nil)))) pa_nil))))), ?_⟩
    refine ⟨_, rfl, _, rfl, b, 5, n, rfl, bx, by omega, by decide, by decide, fun r H1 g1 g2 k1 bx1 => ⟨1, r, rfl, rfl, ?_⟩⟩
    obtain ⟨r0, rfl⟩ := Int.eq_ofNat_of_zero_le g1
    refine ⟨b, 1 + r0, n + 1, rfl, bx1, by omega, by omega, fun p H2 cs hp0 k2 bx2 hp2 csl cnd cok => ?_⟩
    have hpb : p ≠ b := not_box (H' := H1) bx1 hp0
    have k02 := k1.trans k2
    refine ⟨_, rfl, b, 2, n + 1 + 11, rfl, bx2, by omega, by decide, by decide, fun r2 H3 g3 g4 k3 bx3 => ⟨rfl, _, rfl, ?_⟩⟩
    have hp3 := k3 _ _ hp2 (by simpa using hpb)
    have k03 := k02.trans k3
    have htc := tc_le 6 (by decide)
    refine ite2 (fun _ => ?_) (fun _ => ?_)
    · refine ⟨_, rfl, _, rfl, 4, rfl, p, _, rfl, SqL.of hp3, fun p2 hp20 => ?_⟩
      rw [show (some (4 : Int)) = some ((4 : Nat) : Int) from rfl, cut_to, ← List.map_take]
      have bx4 := bx3.own (o := .lst ((cs.take 4).map V.str)) hp20
      refine ⟨b, p2, cs.take 4, n + 1 + 11 + 1, rfl, bx4, by omega, not_box (H' := H3) bx3 hp20, upd_same, cnd.sublist (List.take_sublist ..), fun c hc => cok c (List.mem_of_mem_take hc), by rw [List.length_take]; omega, fun v H5 g k5 bx5 gi g8 gne => ?_⟩
      exact q v H5 g ((k03.trans (Ke.new hp20)).trans k5) (bx5.mono (by omega)) gi g8 gne
    · refine ⟨_, rfl, _, rfl, b, p, cs, 8, n + 1 + 11 + 1, rfl, bx3, by omega, hpb, hp3, cok, by omega, by omega, by omega, fun v H5 d k5 bx5 tr => ?_⟩
      refine ⟨v, cs, 8, d, rfl, tr, cnd, cok, by omega, by omega, fun v6 H6 g k6 gi g8 gne => ?_⟩
      exact q v6 H6 g ((k03.trans k5).trans k6.any) ((bx5.ke k6 (by simp)).mono (by omega)) gi g8 gne
/-! ### _law_mixed -/
def spMixed (K : PySem.W.Frag) : Sp := fun vs H Q _ => ∃ (b : Addr) (v : V) (n : Nat) (g : List Log), vs = [.ref b, v] ∧ BoxV H b n ∧ n ≤ 900000 ∧ GIn K H v g ∧ g.length ≤ 8 ∧
  ∀ p H' xs g', Ke [b] H H' → BoxV H' b (n + 8) → H p = none → H' p = some (.lst xs) → LogsV K H' xs g' → g'.Perm g → Q (.ref p) H'
theorem sc_Mixed : FnScope ["_law_box_here", "_law_some", "_law_left", "_law_found"] ["_law_box_here", "_law_some"] (defScope sLawMixed) := ⟨rfl, rfl, rfl, by decide +kernel, rfl, by decide +kernel, by decide +kernel⟩
theorem ok_mixed (T : Tx K mg) : C8.Cal P w K mg base 2 "_law_mixed" (spMixed K) [] := by
  obtain ⟨fd, F⟩ := T.d__law_mixed
  have c1 : C8.Cal P w K mg base 1 "_law_take" spTake [] := ok_take T
  refine mk_cal F T.g__law_mixed sc_Mixed (fun _ _ _ _ _ _ us hl => match us, hl with | [_, _], _ => rfl) (fun vs H Q E h => ?_) (fun cdv A outer s H vs Q E hr h => ?_)
  · obtain ⟨b, v, n, g, rfl, _⟩ := h
    rfl
  · obtain ⟨b, v, n, g, rfl, bx, hn, gi, g8, q⟩ := h
    refine ⟨_, pss_cons (ps_par (i := 2) (j := 3) rfl sc_Mixed.nd rfl rfl (by decide) rfl rfl (pa_cons (pe_callTy call_list_of (by rfl) T.b_list boot_list (pa_cons (pv 1) pa_nil)) (pa_cons (pe_lst pa_nil) pa_nil)) (by rfl))
      (pss_cons (ps_while PassesOwn.never (pt_cmpR (op_neM hr) (pv 2) (pe_lst pa_nil) (nomark _))
        (pss_one (ps_expr (pe_bm PySem.F.plainAttrs_list PySem.F.slot_list_append PySem.F.type_list_append mt_append (pv 3) (pa_cons
          (pe_bm PySem.F.plainAttrs_list PySem.F.slot_list_pop PySem.F.type_list_pop mt_popAt (pv 2) (pa_cons (C8.pe_c c1 hr (by omega) (by rfl) (pa_cons (pv 0) (pa_cons (pe_callB call_len_seq (by rfl) T.b_len PySem.boot_len (pa_cons (pv 2) pa_nil)) pa_nil))) pa_nil)) pa_nil)))))
      (pss_one (ps_ret (pv 3)))), ?_⟩
    obtain ⟨a, xs, rfl, hq, hp⟩ := gi.at_
    refine ⟨_, rfl, a, xs, rfl, .inr hq, fun lf hlf => ⟨Nat.zero_le _, fun f hf0 => ⟨_, _, rfl, ?_⟩⟩⟩
    have k1 : Ke [b] H (upd H lf (.lst xs)) := Ke.new hlf
    have hlb : lf ≠ b := not_box (H' := H) bx hlf
    have bx1 := bx.own (o := .lst xs) hlf
    have hl1 : (upd H lf (.lst xs)) lf = some (.lst xs) := upd_same
    generalize upd H lf (.lst xs) = H1 at *
    have hfb : f ≠ b := not_box (H' := H1) bx1 hf0
    have hfl : f ≠ lf := by
      rintro rfl
      rw [hl1] at hf0
      cases hf0
    have hfH : H f = none := new_at k1 bx1 hf0
    have k2 : Ke [b] H1 (upd H1 f (.lst [])) := Ke.new hf0
    have bx2 := bx1.own (o := .lst []) hf0
    have hf2 : (upd H1 f (.lst [])) f = some (.lst []) := upd_same
    have hl2 := k2 _ _ hl1 (by simpa using hlb)
    have k02 := k1.trans k2
    generalize upd H1 f (.lst []) = H2 at *
    refine ⟨fun m σ H3 => ∃ fs fg ls lg, σ = [some (.ref b), some (.ref a), some (.ref lf), some (.ref f)] ∧ Ke [b] H H3 ∧ BoxV H3 b (n + fg.length) ∧ H3 f = some (.lst fs) ∧ H3 lf = some (.lst ls) ∧ LogsV K H3 fs fg ∧ LogsV K H3 ls lg ∧ (fg ++ lg).Perm g ∧ lg.length = m,
      ⟨g.length, [], [], xs, g, rfl, k02, bx2, hf2, hl2, .nil, k02.logs bx.wok hp, by simp, rfl⟩, ?_⟩
    rintro m σ H3 ⟨fs, fg, ls, lg, rfl, k3, bx3, hf3, hl3, hfg, hlg, pm, rfl⟩
    have pml := pm.length_eq
    rw [List.length_append] at pml
    refine ⟨_, rfl, Nat.zero_le _, fun e0 he0 => ?_⟩
    have k4 : Ke [] H3 (upd H3 e0 (.lst [])) := Ke.new he0
    have he4 : (upd H3 e0 (.lst [])) e0 = some (.lst []) := upd_same
    have hf4 := k4.same _ _ hf3
    have hl4 := k4.same _ _ hl3
    have hfg4 := k4.logs Wok.nil hfg
    have hlg4 := k4.logs Wok.nil hlg
    have bx4 := bx3.own (o := .lst []) he0
    have k04 : Ke [b] H (upd H3 e0 (.lst [])) := k3.trans k4.any
    generalize upd H3 e0 (.lst []) = H4 at *
    have hll := hlg4.length
    have hffl := hfg4.length
    have wlg : ∀ l ∈ lg, WfLog l := fun l hl => gi.wf l (pm.mem_iff.mp (List.mem_append_right _ hl))
    refine ⟨.list (lg.map eL), .list [], .lst (SqL.of hl4) (logs_dp hlg4), .lst (SqL.of he4) .nil, by simp [PyData.canLay0, lay_logs wlg], by simp [PyData.canLay0, PyData.canLayAll0], by simp [PyData.depth, PyData.depthAll], _, rfl, ?_⟩
    by_cases hle : lg = []
    · subst hle
      refine ite_f (by simp [PyData.eqv, PyData.eqvAll]) ?_
      rw [List.append_nil] at pm
      exact ⟨_, rfl, q f H4 fs fg k04 (bx4.mono (by omega)) hfH hf4 hfg4 pm⟩
    · have hlp : 0 < lg.length := List.length_pos_iff.mpr hle
      refine ite_t (by
        cases lg with
        | nil => exact absurd rfl hle
        | cons B r => simp [PyData.eqv, PyData.eqvAll]) ⟨fun σ' H' => ∃ m', m' < lg.length ∧ _, fun _ _ h => h, ?_⟩
      refine ⟨_, rfl, .inl ⟨rfl, _, SqL.of hf4⟩, _, rfl, .inl ⟨rfl, _, SqL.of hl4⟩, _, rfl, _, rfl, lf, ls, rfl, .inl (SqL.of hl4), b, _, _, rfl, bx4, by omega, by omega, by omega, fun r H5 g1 g2 k5 bx5 => ?_⟩
      obtain ⟨j, rfl⟩ := Int.eq_ofNat_of_zero_le g1
      have hj : j < ls.length := by omega
      have e1 : ls[j]? = some ls[j] := List.getElem?_eq_getElem hj
      obtain ⟨l, e2, hl⟩ := Paired.get hlg4 j _ e1
      have hl5 := k5 _ _ hl4 (by simpa using hlb)
      have hf5 := k5 _ _ hf4 (by simpa using hfb)
      have wb := bx4.wok
      have hlg5 := k5.logs wb hlg4
      have hfg5 := k5.logs wb hfg4
      have hl55 := k5.log wb hl
      refine ⟨lf, ls, (j : Int), j, _, rfl, rfl, hl5, by omega, by omega, seqIx hj, e1, ?_⟩
      have k6 : Ke [lf] H5 (upd H5 lf (.lst (ls.eraseIdx j))) := Ke.on (by simp)
      have w6 : Wok [lf] H5 := Wok.one (mut_lst hl5)
      have hf6 : (upd H5 lf (.lst (ls.eraseIdx j))) f = some (.lst fs) := by rw [upd_ne hfl]; exact hf5
      refine ⟨f, fs, _, rfl, rfl, hf6, by rw [sizeLine_eq]; omega, ?_⟩
      have k7 : Ke [f] (upd H5 lf (.lst (ls.eraseIdx j))) (upd (upd H5 lf (.lst (ls.eraseIdx j))) f (.lst (fs ++ [ls[j]]))) := Ke.on (by simp)
      have w7 : Wok [f] (upd H5 lf (.lst (ls.eraseIdx j))) := Wok.one (mut_lst hf6)
      have hjl : j < lg.length := by omega
      have eg := (List.getElem?_eq_some_iff.mp e2).2
      refine ⟨lg.length - 1, by omega, fs ++ [ls[j]], fg ++ [l], ls.eraseIdx j, lg.eraseIdx j, rfl, ((k04.trans k5).own hlf).own hfH, ?_, upd_same, by rw [upd_ne hfl.symm, upd_same], ?_, ?_, ?_, List.length_eraseIdx_of_lt hjl⟩
      · rw [List.length_append, List.length_singleton, ← Nat.add_assoc]
        exact (bx5.ke k6 (by simpa using hlb.symm)).ke k7 (by simpa using hfb.symm)
      · exact Paired.app (k7.logs w7 (k6.logs w6 hfg5)) (.cons (k7.log w7 (k6.log w6 hl55)) .nil)
      · exact paired_erase j (k7.logs w7 (k6.logs w6 hlg5))
      · refine List.Perm.trans ?_ pm
        rw [List.append_assoc]
        refine List.Perm.append_left fg ?_
        exact erase_perm lg j l e2
end
end RO

/-! text E9 -/
set_option Elab.async false
set_option linter.all false
set_option maxRecDepth 100000
set_option maxHeartbeats 1000000
namespace RO
open PySem PySem.Spec PyProof.Rows L2
theorem any_str (ns : List Str) (i : Str) : ((ns.map PyData.str).any fun z => PyData.eqv z (.str i)) = decide (i ∈ ns) := by
  rw [List.any_map]
  by_cases h : i ∈ ns
  · rw [decide_eq_true h, List.any_eq_true]
    exact ⟨i, h, by simp [PyData.eqv]⟩
  · rw [decide_eq_false h, List.any_eq_false]
    intro x hx
    simp only [Function.comp, PyData.eqv, beq_iff_eq]
    rintro rfl
    exact h hx
section
variable {P : Program} {w : World} {K : PySem.W.Frag} {mg : Str → Option Value} {base : Heap}
/-! ### _law_shared -/
def spSh (K : PySem.W.Frag) : Sp := fun vs H Q _ => ∃ (v : V) (rp : Addr) (g : List Log) (rd : List Str), vs = [v, .ref rp] ∧ GrpS K H v g ∧ g ≠ [] ∧ (∀ l ∈ g, WfLog l) ∧ g.length ≤ 60 ∧ SqT K H rp (rd.map V.str) ∧ (∀ c ∈ rd, IsCell c) ∧
  ∀ (p : Addr) (H' : Hp) (cs : List Str), H p = none → Ke [] H H' → H' p = some (.lst (cs.map V.str)) → (∀ c, c ∈ cs ↔ Shr g c ∧ c ∉ rd) → cs.length ≤ 60 → Q (.ref p) H'
theorem sc_Sh : FnScope ["_law_family", "_law_read", "_law_tables", "_law_each", "_law_name", "_law_value", "_law_table"] ["_law_family", "_law_read"] (defScope sLawShared) := ⟨rfl, rfl, rfl, by decide +kernel, rfl, by decide +kernel, by decide +kernel⟩
theorem ok_sh (T : Tx K mg) : C8.Cal P w K mg base 1 "_law_shared" (spSh K) [] := by
  obtain ⟨fd, F⟩ := T.d__law_shared
  refine mk_cal F T.g__law_shared sc_Sh (fun _ _ _ _ _ _ us hl => match us, hl with | [_, _], _ => rfl) (fun vs H Q E h => ?_) (fun cdv A outer s H vs Q E hr h => ?_)
  · obtain ⟨v, rp, g, rd, rfl, _⟩ := h
    rfl
  · obtain ⟨v, rp, g, rd, rfl, ⟨a, xs, rfl, hq, hp⟩, hne, wf, hz, hrp, rok, k⟩ := h
    refine ⟨_, pss_cons (ps_set sc_Sh.nd (i := 2) rfl (Or.inr rfl) (pe_lc (own := [("_law_each", 3)]) (g := gName 3) (tt := tYes) (te := tCB (rDictLL K) (tCons (tCB (fun xs H Q => ∃ p ys, xs = [.ref p] ∧ (SqL K H p ys ∨ SqT K H p ys) ∧ ∀ l, H l = none → Q (.ref l) (upd H l (.lst ys))) (tCons (tVar 3) tNil)) tNil)) rfl sc_Sh.nd (pi_sq (pv 0))
          (blkOk_by (own := [("_law_each", 3)]) (N := ["_law_family", "_law_read", "_law_tables", "_law_each", "_law_name", "_law_value", "_law_table"]) (sc := defScope sLawShared) (by decide +kernel)) (fun _ _ _ _ _ => pg_name (i := 3) sc_Sh.nd rfl (Or.inl rfl)) (fun _ _ _ _ _ => pts_nil)
          (fun _ _ _ _ _ => pe_callTy (crK rDictLL K (call_dictLL rfl)) (by rfl) T.b_dict boot_dict (pa_cons (pe_callTy call_list_of (by rfl) T.b_list boot_list (pa_cons (pv 3) pa_nil)) pa_nil))))
      (pss_one (ps_ret (pe_lc (own := [("_law_name", 4), ("_law_value", 5)]) (g := gTup K 2 (gCons (gName 4) (gCons (gName 5) gNil)))
          (tt := tAnd (tTest (tOp (rInS K true) (tVar 4) (tVar 1))) (tB (tCB (rAll K) (tCons (tLc (iList K (tVar 2)) (gName 6) tYes (tDIn (tVar 4) (tVar 6)) [6]) tNil)))) rfl sc_Sh.nd (pi_tup (pe_ix (ixSqK K) (pv 0) pe_int (fun _ _ => rfl)))
          (blkOk_by (own := [("_law_name", 4), ("_law_value", 5)]) (N := ["_law_family", "_law_read", "_law_tables", "_law_each", "_law_name", "_law_value", "_law_table"]) (sc := defScope sLawShared) (by decide +kernel))
          (fun _ _ _ _ _ => pg_tup rfl (pgs_cons (pg_name (i := 4) sc_Sh.nd rfl (Or.inr rfl)) (pgs_cons (pg_name (i := 5) sc_Sh.nd rfl (Or.inl rfl)) pgs_nil)))
          (fun _ _ _ _ _ => by
            refine pts_one (PW.pt (pw_and (pt_cmpR (op_notInS hr) (pv 4) (pv 1) rfl) (pw_and1 ?_)))
            refine pt_val ?_
            refine pe_callB (crAll K rfl) (by rfl) T.b_all boot_all ?_
            refine pa_cons ?_ pa_nil
            refine pe_lc (own := [("_law_table", 6)]) (g := gName 6) (tt := tYes) rfl sc_Sh.nd ?_ ?_ ?_ ?_ ?_
            · exact pi_list (pv 2)
            · exact blkOk_by (by kernel_rfl)
            · exact fun _ _ _ _ _ => pg_name (i := 6) sc_Sh.nd rfl (Or.inl rfl)
            · exact fun _ _ _ _ _ => pts_nil
            · exact fun _ _ _ _ _ => pe_cmp (pc_din (room_blk hr) (pv 4) (pv 6)))
          (fun _ _ _ _ _ => pv 4)))), ?_⟩
    have hlen : xs.length = g.length := hp.length
    refine ⟨_, rfl, a, xs, H, rfl, hq, Ke.rfl, fun J G hJ hG D hD => lc_ac hJ (AcP DctV g H) (AcP.zero hD) (fun i acc H2 _ _ z => hG [] H2 z.2 Wok.nil (.inr (by simp))) (fun i x acc H2 H3 hi hd hl z y => ?_) (fun acc H2 hd hl z => ?_)⟩
    · obtain ⟨rfl, e1⟩ := y
      obtain ⟨l, e2, hlg⟩ := Paired.get hp i x e1
      have hl3 := z.2.log Wok.nil hlg
      obtain ⟨b, ys, rfl, hb1, hb2⟩ := hl3.sqt
      refine ⟨rfl, yes_ite ?_⟩
      refine ⟨_, rfl, b, ys, rfl, .inr hb1, fun l2 hl2 => ?_⟩
      have k5 := Ke.new (W := []) hl2 (o := .lst ys)
      exact ⟨l2, ys, l, rfl, SqL.of upd_same, Paired.mapP hb2 fun _ _ => k5.pair Wok.nil, (wf l (List.mem_of_getElem? e2)).nodup, fun q H4 hq0 k4 hd4 => AcP.more stab_dct hD hd hl (by omega) z (k5.trans k4) e2 ⟨q, rfl, hd4⟩⟩
    have hot : Paired (DctV H2) acc g := z.fin (by omega)
    have k2 := z.2
    obtain ⟨l0, tl, rfl⟩ : ∃ l0 tl, g = l0 :: tl := by
      cases g with
      | nil => exact absurd rfl hne
      | cons l0 tl => exact ⟨l0, tl, rfl⟩
    have h0 := hp
    cases h0 with
    | cons hx0 hxt =>
    rename_i x0 xt
    obtain ⟨a0, ys, rfl, hq0, hp0⟩ := (k2.log Wok.nil hx0).sqt
    have wf0 := wf l0 (List.mem_cons_self ..)
    have hyl : ys.length = l0.length := hp0.length
    have hyz := wf0.len
    refine ⟨_, rfl, a, _, 0, _, rfl, rfl, k2.sq Wok.nil (by simp) hq, atI_nat (j := 0) rfl, a0, rfl, ⟨ys, hq0⟩, fun D2 hD2 => lc_ac walk_tup (fun i acc2 H3 => acc2 = ((l0.take i).filter fun p => shrB (l0 :: tl) p.1 && !decide (p.1 ∈ rd)).map (fun p => V.str p.1) ∧ Ke [] H2 H3) ⟨rfl, Ke.new hD2⟩ (fun i acc2 H3 _ _ z2 => z2.2.sqt Wok.nil hq0) (fun i x acc2 H3 H4 hi hd2 hl2 z2 y => ?_) (fun acc2 H3 hd2 hl2 z2 => ?_)⟩
    · obtain ⟨rfl, e1⟩ := y
      obtain ⟨pr, e2, t, rfl, ht⟩ := Paired.get hp0 i x e1
      have hcell := (wf0.ok pr (List.mem_of_getElem? e2)).1
      have hD3 : H4 D = some (.lst acc) := z2.2.same _ _ hd
      have hot3 : Paired (DctV H4) acc (l0 :: tl) := Paired.mapP hot fun v y h => stab_dct D acc H2 H4 v y hd z2.2.any h
      refine ⟨t, _, rfl, z2.2.sqt Wok.nil ht, rfl, _, _, rfl, _, _, rfl, rfl, rfl, ?_⟩
      refine ⟨_, rfl, _, rfl, .str pr.1, rd.map PyData.str, .str pr.1, .inr (.tup ((k2.trans z2.2).sqt Wok.nil hrp) (strs_dp rd)), by simp [PyData.canLay0, hcell.strOk], lay_strs rok, by simp [PyData.depth], !decide (pr.1 ∈ rd), ?_, ?_⟩
      · show V.bl (!(rd.map PyData.str).any fun z => PyData.eqv z (.str pr.1)) = V.bl (!decide (pr.1 ∈ rd))
        rw [any_str]
      have skip : (shrB (l0 :: tl) pr.1 && !decide (pr.1 ∈ rd)) = false → ∀ H5, Ke [] H4 H5 → L2.Acc D2 (fun i acc2 H3 => acc2 = ((l0.take i).filter fun p => shrB (l0 :: tl) p.1 && !decide (p.1 ∈ rd)).map (fun p => V.str p.1) ∧ Ke [] H2 H3) (i + 1) H5 := fun hc H5 k5 =>
        L2.Acc.skip (k5.same _ _ hd2) hl2 ⟨by rw [take_snoc e2, List.filter_append, z2.1]; simp [hc], z2.2.trans k5⟩
      refine ite2 (fun hr1 => ?_) (fun hr1 => ?_)
      · refine ⟨_, rfl, D, rfl, ⟨acc, .inl (.inl hD3)⟩, fun D3 hD4 => lc_ac walk_list (fun j acc3 H5 => acc3 = ((l0 :: tl).take j).map (fun l => V.bl (vOf l pr.1).isSome) ∧ Ke [] H4 H5) ⟨rfl, Ke.new hD4⟩ (fun j acc3 H5 _ _ z3 => .inl (.inl (z3.2.same _ _ hD3))) (fun j x acc3 H5 H6 hj hd3 hl3 z3 y => ?_) (fun acc3 H5 hd3 hl3 z3 => ?_)⟩
        · obtain ⟨rfl, e3⟩ := y
          obtain ⟨l, e4, d, rfl, kvs, e, kk⟩ := Paired.get hot3 j x e3
          have hdl4 : DctL H6 d l := ⟨kvs, z3.2.same _ _ e, kk⟩
          refine ⟨rfl, yes_ite ?_⟩
          refine ⟨_, rfl, _, rfl, d, _, rfl, hdl4.get pr.1, ?_⟩
          refine L2.Acc.more hd3 hl3 (by rw [hot3.length] at hj; omega) ⟨?_, z3.2.own hD4⟩
          rw [take_snoc e4, List.map_append, z3.1, Option.isSome_map]
          rfl
        · have ha : acc.length = (l0 :: tl).length := hot3.length
          have e3 : acc3 = ((l0 :: tl).map fun l => (vOf l pr.1).isSome).map V.bl := by
            rw [z3.1, ha, List.take_length, List.map_map]
            rfl
          refine ⟨D3, _, rfl, SqL.of (by rw [hd3, e3]), ?_⟩
          have hb : ((l0 :: tl).map fun l => (vOf l pr.1).isSome).all id = shrB (l0 :: tl) pr.1 := by
            unfold shrB
            rw [List.all_map]
            rfl
          rw [hb]
          have k3 : Ke [] H4 H5 := z3.2
          refine ⟨_, rfl, ?_⟩
          have hr2 : pr.1 ∉ rd := by simpa using hr1
          cases hc : shrB (l0 :: tl) pr.1 with
          | false => exact ite_f rfl (skip (by rw [hc]; rfl) H5 k3)
          | true =>
            have hc2 : (shrB (l0 :: tl) pr.1 && !decide (pr.1 ∈ rd)) = true := by simp [hc, hr2]
            refine ite_t rfl ⟨_, rfl, L2.Acc.more (k3.same _ _ hd2) hl2 (by omega) ⟨?_, (z2.2.trans k3).own hD2⟩⟩
            rw [take_snoc e2, List.filter_append, z2.1]
            simp [hc2]
      · have hr2 : pr.1 ∈ rd := by simpa using hr1
        exact ite_f rfl (skip (by simp [hr2]) H4 Ke.rfl)
    · let cs : List Str := (l0.filter fun p => shrB (l0 :: tl) p.1 && !decide (p.1 ∈ rd)).map (·.1)
      have e5 : acc2 = cs.map V.str := by
        rw [z2.1, hyl, List.take_length]
        simp [cs]
      have hcl : cs.length ≤ 60 := by
        have := List.length_filter_le (fun p : Str × Int => shrB (l0 :: tl) p.1 && !decide (p.1 ∈ rd)) l0
        simp only [cs, List.length_map]
        omega
      refine k D2 H3 cs (k2.same.free hD2) (k2.trans z2.2) (by rw [hd2, e5]) (fun c => ?_) hcl
      simp only [cs, List.mem_map, List.mem_filter, Bool.and_eq_true, Bool.not_eq_true', decide_eq_false_iff_not]
      constructor
      · rintro ⟨p, ⟨_, h2, h3⟩, rfl⟩
        exact ⟨shrB_iff.mp h2, h3⟩
      · rintro ⟨h, h3⟩
        obtain ⟨v, hv⟩ := h l0 (List.mem_cons_self ..)
        exact ⟨(c, v), ⟨vOf_mem hv, shrB_iff.mpr h, h3⟩, rfl⟩
end
end RO

/-! text E10 -/
set_option Elab.async false
set_option linter.all false
set_option maxRecDepth 100000
set_option maxHeartbeats 1000000
namespace RO
open PySem PySem.Spec PyProof.Rows L2
section
variable {P : Program} {w : World} {K : PySem.W.Frag} {mg : Str → Option Value} {base : Heap}
/-! ### _law_parts -/
def spPa (K : PySem.W.Frag) : Sp := fun vs H Q _ => ∃ (v : V) (g : List Log) (c : Str), vs = [v, .str c] ∧ GrpS K H v g ∧ (∀ l ∈ g, WfLog l) ∧ Shr g c ∧ g.length ≤ 60 ∧
  ∀ (d : Addr) (H' : Hp) (qs : List (Int × List Log)), H d = none → Ke [] H H' → PD K H d qs H' → PartsOf g c qs → Q (.ref d) H'
theorem sc_Pa : FnScope ["_law_family", "_law_name", "_law_found", "_law_entry"] ["_law_family", "_law_name"] (defScope sLawParts) := ⟨rfl, rfl, rfl, by decide +kernel, rfl, by decide +kernel, by decide +kernel⟩
theorem ok_pa (T : Tx K mg) : C8.Cal P w K mg base 1 "_law_parts" (spPa K) [] := by
  obtain ⟨fd, F⟩ := T.d__law_parts
  refine mk_cal F T.g__law_parts sc_Pa (fun _ _ _ _ _ _ us hl => match us, hl with | [_, _], _ => rfl) (fun vs H Q E h => ?_) (fun cdv A outer s H vs Q E hr h => ?_)
  · obtain ⟨v, g, c, rfl, _⟩ := h
    rfl
  · obtain ⟨v, g, c, rfl, ⟨a, xs, rfl, hq, hp⟩, wf, sh, hz, k⟩ := h
    refine ⟨_, pss_cons (ps_set sc_Pa.nd (i := 2) rfl (Or.inl rfl) pe_dnewK)
      (pss_cons (ps_for PassesOwn.never rfl (pi_sq (pv 0)) (pg_name (i := 3) sc_Pa.nd rfl (Or.inl rfl))
        (pss_one (ps_expr (pe_bm PySem.F.plainAttrs_list PySem.F.slot_list_append PySem.F.type_list_append mt_append
          (pe_dsetd (pv 2) (pe_dget (room_blk hr) (pe_callTy (call_dictLL rfl) (by rfl) T.b_dict boot_dict (pa_cons (pe_callTy call_list_of (by rfl) T.b_list boot_list (pa_cons (pv 3) pa_nil)) pa_nil)) (pv 1) (fun _ _ => rfl)) (pe_lst pa_nil) ⟨rfl, rfl, rfl, rfl⟩) (pa_cons (pv 3) pa_nil)))))
      (pss_one (ps_ret (pv 2)))), ?_⟩
    intro d hd0
    refine ⟨_, rfl, a, xs, H, rfl, hq, Ke.new hd0, fun J G hJ hG => for_it hJ
      (fun i σ H1 => ∃ u qs, σ = [some (.ref a), some (.str c), some (.ref d), u] ∧ Ke [] H H1 ∧ PD K H d qs H1 ∧ PartsOf (g.take i) c qs) ⟨none, [], rfl, Ke.new hd0, PD.empty, by rw [List.take_zero]; exact parts_nil⟩
      (fun i σ H1 _ z => hG [] H1 z.choose_spec.choose_spec.2.1 Wok.nil (.inr (by simp))) (fun i x σ H1 H2 hi z y => ?_) (fun σ H1 z => ?_)⟩
    · obtain ⟨u, qs, rfl, k1, pd, po⟩ := z
      obtain ⟨rfl, e1⟩ := y
      obtain ⟨l, e2, hlg⟩ := Paired.get hp i x e1
      have hml := List.mem_of_getElem? e2
      obtain ⟨vl, hvl⟩ := sh l hml
      have hlen : qs.length ≤ 60 := by
        have := po.len
        rw [List.length_take] at this
        omega
      obtain ⟨kvs0, ed0, _⟩ := pd.ex
      obtain ⟨lb, ys, rfl, hb1, hb2⟩ := (k1.log Wok.nil hlg).sqt
      refine ⟨_, rfl, d, rfl, .inl ⟨kvs0, .inl ed0⟩, ?_⟩
      refine ⟨_, rfl, lb, ys, rfl, .inr hb1, fun l2 hl2 => ?_⟩
      have k2' := Ke.new (W := []) hl2 (o := .lst ys)
      refine ⟨l2, ys, l, rfl, SqL.of upd_same, Paired.mapP hb2 fun _ _ => k2'.pair Wok.nil, (wf l hml).nodup, fun q H3 hq0 k3' hdl => ⟨_, rfl, q, .int vl, rfl, ?_, ?_⟩⟩
      · have := hdl.get c
        rw [hvl] at this
        exact this
      · have k3 := k2'.trans k3'
        refine ⟨Nat.zero_le _, fun p hp0 => ?_⟩
        have k4 : Ke [] H2 (upd H3 p (.lst [])) := k3.trans (Ke.new hp0)
        have pd4 := pd.keep k4
        have hl4 : LogV K (upd H3 p (.lst [])) (.ref lb) l := (k1.trans k4).log Wok.nil hlg
        obtain ⟨kvs, ed, pr, nd, h0⟩ := pd4.ex
        have hkl : kvs.length = qs.length := pr.length
        have hpH : H p = none := (k1.trans k3).same.free hp0
        refine ⟨kvs, .inl vl, ed, rfl, by rw [sizeLine_eq]; omega, fun w1 hw1 => ?_, fun hn => ?_⟩
        · obtain ⟨a1, zs, rfl, hm1, ha1, ⟨g', hg', r, hr1, er⟩, pr2⟩ := pd_old hl4 pr nd hw1
          refine ⟨.inl ⟨rfl, _, SqL.of ha1⟩, _, rfl, a1, zs, _, rfl, rfl, ha1, ?_, ?_⟩
          · rw [hg'.length, ← er, (po.is r hr1).1]
            have h1 := List.length_filter_le (fun l => decide (vOf l c = some r.1)) (g.take i)
            have h2 : (part (g.take i) c r.1).length = ((g.take i).filter fun l => decide (vOf l c = some r.1)).length := rfl
            rw [List.length_take] at h1
            rw [sizeLine_eq]
            omega
          · have ha0 : H a1 = none := by
              obtain ⟨kv, hk, ek⟩ := List.mem_map.mp hm1
              exact h0 kv hk a1 ek
            refine ⟨_, _, rfl, (k1.trans k4).own ha0, ⟨kvs, ?_, pr2, nd, h0⟩, ?_⟩
            · rw [upd_ne (by rintro rfl; rw [ed] at ha1; cases ha1)]
              exact ed
            · rw [take_snoc e2]
              exact po.add hvl
        · have hp4 : (upd H3 p (.lst [])) p = some (.lst []) := upd_same
          have hpn : p ≠ d := by
            rintro rfl
            rw [hp4] at ed
            cases ed
          have h5 : (upd (upd H3 p (.lst [])) d (.dK (putK kvs (.inl vl) (.ref p)))) p = some (.lst []) := by rw [upd_ne hpn]; exact hp4
          refine ⟨.inl ⟨rfl, _, SqL.of h5⟩, _, rfl, p, [], _, rfl, rfl, h5, by rw [sizeLine_eq]; decide, ?_⟩
          refine ⟨_, addP qs vl l, rfl, ?_, ?_, ?_⟩
          · have hdH : H d = none := hd0
            exact ((k1.trans k4).own hdH).own hpH
          · refine pd_new hl4 ed hp4 (fun kv hk z => ?_) pr nd hn h0 hpH
            have := k3.same.free hp0
            obtain ⟨j, hj, ej⟩ := List.mem_iff_getElem.mp hk
            obtain ⟨kvs', ed', pr', nd', h0'⟩ := pd.ex
            have e' := k4.same _ _ ed'
            rw [ed] at e'
            cases e'
            obtain ⟨q', _, h⟩ := Paired.get pr' j kv (by rw [List.getElem?_eq_getElem hj, ej])
            obtain ⟨_, b, bs, eb, h1, _⟩ := h
            rw [z] at eb
            cases eb
            rw [this] at h1
            cases h1
          · rw [take_snoc e2]
            exact po.add hvl
    · obtain ⟨u, qs, rfl, k1, pd, po⟩ := z
      rw [hp.length, List.take_length] at po
      exact ⟨_, rfl, k d H1 qs hd0 k1 pd po⟩
end
end RO

/-! text E11 -/
set_option Elab.async false
set_option linter.all false
set_option maxRecDepth 100000
set_option maxHeartbeats 1000000
namespace RO
open PySem PySem.Spec PyProof.Rows L2
theorem Ke.grpS {K : PySem.W.Frag} {H H' : Hp} {v : V} {g : List Log} (k : Ke [] H H') (h : GrpS K H v g) : GrpS K H' v g := let ⟨a, xs, e, s, l⟩ := h; ⟨a, xs, e, k.sq Wok.nil (by simp) s, k.logs Wok.nil l⟩
theorem val_at : ∀ {kvs : List (Key × V)} {k : Key} {v : V}, (kvs.map (·.1)).Nodup → (k, v) ∈ kvs → valV kvs k = some v
  | p :: kvs, k, v, n, h => by
    have n2 := List.nodup_cons.mp n
    rcases List.mem_cons.mp h with h | h
    · subst h
      exact valV_pos rfl
    · rw [valV_neg (fun z => n2.1 (by show p.1 ∈ _; rw [z]; exact List.mem_map_of_mem (f := (·.1)) h))]
      exact val_at n2.2 h
section
variable {P : Program} {w : World} {K : PySem.W.Frag} {mg : Str → Option Value} {base : Heap}
/-! ### _law_is_stuck -/
def spIs (K : PySem.W.Frag) : Sp := fun vs H Q _ => ∃ (v : V) (g : List Log), vs = [v] ∧ GIn K H v g ∧ Stk g ∧ ∀ H', Ke [] H H' → Q (.bl true) H'
theorem sc_Is : FnScope ["_law_group", "_law_cell"] ["_law_group"] (defScope sLawIsStuck) := ⟨rfl, rfl, rfl, by decide +kernel, rfl, by decide +kernel, by decide +kernel⟩
theorem ok_is (T : Tx K mg) : C8.Cal P w K mg base 2 "_law_is_stuck" (spIs K) [] := by
  obtain ⟨fd, F⟩ := T.d__law_is_stuck
  have c1 : C8.Cal P w K mg base 1 "_law_shared" (spSh K) [] := ok_sh T
  have c2 : C8.Cal P w K mg base 1 "_law_parts" (spPa K) [] := ok_pa T
  refine mk_cal F T.g__law_is_stuck sc_Is (fun _ _ _ _ _ _ us hl => match us, hl with | [_], _ => rfl) (fun vs H Q E h => ?_) (fun cdv A outer s H vs Q E hr h => ?_)
  · obtain ⟨v, g, rfl, _⟩ := h
    rfl
  · obtain ⟨v, g, rfl, gi, st, k⟩ := h
    refine ⟨_, pss_cons (ps_if (pt_cmpR op_lt (pe_callB call_len_seq (by rfl) T.b_len PySem.boot_len (pa_cons (pv 0) pa_nil)) pe_int (nomark _)) (pss_one (ps_ret pe_nv)) pss_nil)
      (pss_one (ps_ret (pe_callB (cr_all rfl) (by rfl) T.b_all boot_all (pa_cons (pe_lc (own := [("_law_cell", 1)]) (g := gName 1) (tt := tYes)
          (te := tOp rEq (tCB (fun xs H Q => ∃ a kvs, xs = [V.ref a] ∧ H a = some (.dK kvs) ∧ Q (.int kvs.length) H) (tCons (tCall (spPa K) [] C8.E0 (tCons (tVar 0) (tCons (tVar 1) tNil))) tNil)) (tC (.int 1))) rfl sc_Is.nd
          (pi_list (C8.pe_c c1 hr (by omega) (by rfl) (pa_cons (pv 0) (pa_cons (pe_tup pa_nil) pa_nil))))
          (blkOk_by (own := [("_law_cell", 1)]) (N := ["_law_group", "_law_cell"]) (sc := defScope sLawIsStuck) (by decide +kernel)) (fun _ _ _ _ _ => pg_name (i := 1) sc_Is.nd rfl (Or.inl rfl)) (fun _ _ _ _ _ => pts_nil)
          (fun _ _ _ _ _ => by
            refine pe_cmpR op_eq ?_ pe_int (nomark _)
            refine pe_callB call_lenD (by rfl) T.b_len PySem.boot_len ?_
            refine pa_cons ?_ pa_nil
            exact C8.pe_c c2 hr (by omega) (by rfl) (pa_cons (pv 0) (pa_cons (pv 1) pa_nil)))) pa_nil)))), ?_⟩
    obtain ⟨a, xs, rfl, hq, hp⟩ := id gi.at_
    have h2 := len_two st.1
    have hne : g ≠ [] := by
      rintro rfl
      simp at h2
    refine ⟨_, rfl, a, xs, rfl, .inr hq, (xs.length : Int), 2, rfl, rfl, _, rfl, ?_⟩
    refine ite_f (decide_eq_false (by rw [hp.length]; omega)) ?_
    refine ⟨_, rfl, Nat.zero_le _, fun e he => ?_⟩
    have k1 : Ke [] H (upd H e (.tup [])) := Ke.new he
    refine ⟨_, e, g, [], rfl, (k1.grp Wok.nil gi.at_).s, hne, gi.wf, gi.len, SqT.of upd_same, by simp, fun p H2 cs hp0 k2 hp2 hcs hcl => ?_⟩
    have k02 := k1.trans k2
    refine ⟨p, rfl, ⟨_, SqL.of hp2⟩, fun D hD => lc_ac walk_list (AcT H2) ⟨rfl, Ke.new hD⟩ (fun i acc H3 _ _ z => SqL.of (z.2.same _ _ hp2)) (fun i x acc H3 H4 hi hd hl z y => ?_) (fun acc H3 hd hl z => ?_)⟩
    · obtain ⟨rfl, e1⟩ := y
      rw [List.getElem?_map] at e1
      obtain ⟨c, e2, e3⟩ := Option.map_eq_some_iff.mp e1
      subst e3
      rw [List.length_map] at hi
      have hs := ((hcs c).mp (List.mem_of_getElem? e2)).1
      refine ⟨rfl, yes_ite ?_⟩
      refine ⟨_, rfl, _, rfl, _, g, c, rfl, ((k02.trans z.2).grp Wok.nil gi.at_).s, gi.wf, hs, gi.len, fun d H5 qs hd0 k5 pd po => ?_⟩
      obtain ⟨kvs, ed, pr, _⟩ := pd.ex
      have h1 : kvs.length = 1 := by rw [pr.length]; exact po.one hs hne (st.2 c)
      refine ⟨d, kvs, rfl, ed, rfl, ?_⟩
      rw [h1]
      exact AcT.more hD (k5.same _ _ hd) hl (by omega) z.1 (z.2.trans k5)
    · refine ⟨D, _, rfl, AcT.sq hd z.1, ?_⟩
      rw [allT]
      exact k _ (k02.trans z.2)
/-! ### _law_fits -/
def spFits (K : PySem.W.Frag) (k : Nat) : Sp := fun vs H Q _ => ∃ (v : V) (rp : Addr) (g : List Log) (rd : List Str), vs = [v, .ref rp] ∧ GrpS K H v g ∧ g.Nodup ∧ g ≠ [] ∧ (∀ l ∈ g, WfLog l) ∧ g.length ≤ 60 ∧ SqT K H rp (rd.map V.str) ∧ rd.Nodup ∧ (∀ c ∈ rd, IsCell c ∧ Shr g c ∧ ¬ Splits c g) ∧ 61 ≤ k + rd.length ∧
  ∀ b H', Ke [] H H' → (b = true ↔ Ok g) → Q (.bl b) H'
theorem sc_Fits : FnScope ["_law_family", "_law_read", "_law_name", "_law_parts_here", "_law_value"] ["_law_family", "_law_read"] (defScope sLawFits) := ⟨rfl, rfl, rfl, by decide +kernel, rfl, by decide +kernel, by decide +kernel⟩
/-- no more cells are read than a log has -/
theorem read_few {g : List Log} {rd : List Str} (hne : g ≠ []) (wf : ∀ l ∈ g, WfLog l) (nd : rd.Nodup) (h : ∀ c ∈ rd, IsCell c ∧ Shr g c ∧ ¬ Splits c g) : rd.length ≤ 60 := by
  obtain ⟨l, hl⟩ := List.exists_mem_of_ne_nil g hne
  have : rd.length ≤ (l.map (·.1)).length := len_sub nd fun c hc => by
    obtain ⟨v, hv⟩ := (h c hc).2.1 l hl
    exact List.mem_map.mpr ⟨(c, v), vOf_mem hv, rfl⟩
  rw [List.length_map] at this
  have := (wf l hl).len
  omega
theorem ok_fits (T : Tx K mg) : ∀ k : Nat, C8.Cal P w K mg base (2 + k) "_law_fits" (spFits K k) []
  | 0 => by
    obtain ⟨fd, F⟩ := T.d__law_fits
    exact mk_cal F T.g__law_fits sc_Fits (fun _ _ _ _ _ _ us hl => match us, hl with | [_, _], _ => rfl) (fun vs H Q E ⟨_, _, _, _, _, _, _, h1, h2, _, _, h3, h4, h5, _⟩ => by have := read_few h1 h2 h3 h4; omega)
      (fun cdv A outer s H vs Q E hr ⟨_, _, _, _, _, _, _, h1, h2, _, _, h3, h4, h5, _⟩ => by have := read_few h1 h2 h3 h4; omega)
  | k + 1 => by
    obtain ⟨fd, F⟩ := T.d__law_fits
    have c0 : C8.Cal P w K mg base (2 + k) "_law_fits" (spFits K k) [] := ok_fits T k
    have c1 : C8.Cal P w K mg base 1 "_law_shared" (spSh K) [] := ok_sh T
    have c2 : C8.Cal P w K mg base 1 "_law_parts" (spPa K) [] := ok_pa T
    refine mk_cal (k := 2 + k) F T.g__law_fits sc_Fits (fun _ _ _ _ _ _ us hl => match us, hl with | [_, _], _ => rfl) (fun vs H Q E h => ?_) (fun cdv A outer s H vs Q E hr h => ?_)
    · obtain ⟨v, rp, g, rd, rfl, _⟩ := h
      rfl
    · obtain ⟨v, rp, g, rd, rfl, hg, gnd, hne, wf, hz, hrp, rnd, hrd, h61, q⟩ := h
      refine ⟨_, pss_cons (ps_if (pt_cmpR op_eq (pe_callB call_len_seq (by rfl) T.b_len PySem.boot_len (pa_cons (pv 0) pa_nil)) pe_int (nomark _)) (pss_one (ps_ret pe_bl)) pss_nil)
        (pss_cons (ps_for PassesOwn.never rfl (pi_list (C8.pe_c c1 hr (by omega) (by rfl) (pa_cons (pv 0) (pa_cons (pv 1) pa_nil)))) (pg_name (i := 2) sc_Fits.nd rfl (Or.inr rfl))
          (pss_cons (ps_set sc_Fits.nd (i := 3) rfl (Or.inr rfl) (C8.pe_c c2 hr (by omega) (by rfl) (pa_cons (pv 0) (pa_cons (pv 2) pa_nil))))
          (pss_one (ps_if (pt_val (pe_callB (cr_all rfl) (by rfl) T.b_all boot_all (pa_cons (pe_lock (pe_lc (own := [("_law_value", 4)]) (g := gName 4) (tt := tYes)
              (te := tCall (spFits K k) [] C8.E0 (tCons (tDGet (tVar 3) (tVar 4)) (tCons (tOp (rCatN K) (tVar 1) (tTup (tCons (tVar 2) tNil))) tNil))) rfl sc_Fits.nd (pi_keys (pv 3))
              (blkOk_by (own := [("_law_value", 4)]) (N := ["_law_family", "_law_read", "_law_name", "_law_parts_here", "_law_value"]) (sc := defScope sLawFits) (by decide +kernel)) (fun _ _ _ _ _ => pg_name (i := 4) sc_Fits.nd rfl (Or.inl rfl)) (fun _ _ _ _ _ => pts_nil)
              (fun _ _ _ _ _ => C8.pe_c c0 hr (Nat.le_refl _) (by rfl) (pa_cons (pe_dget (room_blk hr) (pv 3) (pv 4) (fun _ _ => rfl)) (pa_cons (pe_op op_catN (pv 1) (pe_tup (pa_cons (pv 2) pa_nil))) pa_nil))))) pa_nil)))
            (pss_one (ps_ret pe_bl)) pss_nil))))
        (pss_one (ps_ret pe_bl))), ?_⟩
      obtain ⟨a, xs, rfl, hq, hp⟩ := id hg
      have hxl := hp.length
      refine ⟨_, rfl, a, xs, rfl, hq, rfl, _, rfl, ?_⟩
      by_cases h1 : g.length = 1
      · refine ite_t (decide_eq_true (by rw [hxl, h1]; rfl)) ?_
        refine q true H Ke.rfl ⟨fun _ => ?_, fun _ => rfl⟩
        obtain ⟨l, rfl⟩ := List.length_eq_one_iff.mp h1
        exact ok_one
      refine ite_f (decide_eq_false (fun z => h1 (by have := V.int.inj z; omega))) ?_
      refine ⟨_, rfl, _, rfl, _, rp, g, rd, rfl, hg, hne, wf, hz, hrp, fun c hc => (hrd c hc).1, fun p H1 cs hp0 k1 hp1 hcs hcl => ?_⟩
      refine ⟨p, rfl, ⟨_, SqL.of hp1⟩, for_it walk_list (fun i σ H2 => (∃ u2 u3, σ = [some (.ref a), some (.ref rp), u2, u3, none]) ∧ Ke [] H1 H2 ∧ ∀ c ∈ cs.take i, ¬ ∀ v, (∃ l ∈ g, vOf l c = some v) → Ok (part g c v))
        ⟨⟨none, none, rfl⟩, Ke.rfl, by simp⟩ (fun i σ H2 _ z => SqL.of (z.2.1.same _ _ hp1)) (fun i x σ H2 H3 hi z y => ?_) (fun σ H2 z => ?_)⟩
      · obtain ⟨⟨u2, u3, rfl⟩, k2, hno⟩ := z
        obtain ⟨rfl, e1⟩ := y
        rw [List.getElem?_map] at e1
        obtain ⟨c, e2, e3⟩ := Option.map_eq_some_iff.mp e1
        subst e3
        obtain ⟨hs, hcr⟩ := (hcs c).mp (List.mem_of_getElem? e2)
        have k02 := k1.trans k2
        have hcell : IsCell c := by
          obtain ⟨l, hl⟩ := List.exists_mem_of_ne_nil g hne
          obtain ⟨v, hv⟩ := hs l hl
          exact ((wf l hl).ok _ (vOf_mem hv)).1
        refine ⟨_, rfl, _, rfl, _, g, c, rfl, k02.grpS hg, wf, hs, hz, fun d H4 qs hd0 k4 pd po => ?_⟩
        have k04 := k02.trans k4
        obtain ⟨kvs, ed, pr, nd, h0⟩ := pd.ex
        have hdH : H d = none := k02.same.free hd0
        have hd1 : H1 d = none := k2.same.free hd0
        have hprl := pr.length
        have hql := po.len
        refine ⟨d, .dK kvs, ed, trivial, fun od => ⟨_, rfl, d, od, rfl, .inl ⟨kvs, upd_same, fun D hD => ?_⟩⟩⟩
        have hdD : D ≠ d := by
          rintro rfl
          rw [upd_same] at hD
          cases hD
        have wd : Wok [d] H4 := fun b hb => by rw [List.mem_singleton.mp hb, ed]; trivial
        have kf : Ke [d] H4 (upd H4 d (.frz od (.dK kvs))) := Ke.on (by simp)
        have hfz : (upd H4 d (.frz od (.dK kvs))) d = some (.frz od (.dK kvs)) := upd_same
        have hD4 : H4 D = none := by rw [upd_ne hdD] at hD; exact hD
        refine lc_ac (walk_keys (kvs := kvs)) (fun i acc H5 => ∃ bl : List Bool, acc = bl.map V.bl ∧ bl.length = i ∧ (∀ (j : Nat) b q, bl[j]? = some b → qs[j]? = some q → (b = true ↔ Ok q.2)) ∧ Ke [] (upd H4 d (.frz od (.dK kvs))) H5)
          ⟨[], rfl, rfl, by simp, Ke.new hD⟩ (fun i acc H5 _ _ z => z.choose_spec.2.2.2.same _ _ hfz) (fun i x acc H5 H6 hi hd hl z y => ?_) (fun acc H5 hd hl z => ?_)
        · obtain ⟨rfl, ky, vv, ek, rfl⟩ := y
          obtain ⟨bl, rfl, hbl, hb, k5⟩ := z
          obtain ⟨qq, eq1, e4, a1, zs, e5, ha1, hzs⟩ := Paired.get pr i _ ek
          have e4' : ky = .inl qq.1 := e4
          subst e4'
          have e5' : vv = .ref a1 := e5
          subst e5'
          have hval : valV kvs (.inl qq.1) = some (.ref a1) := by
            obtain ⟨a2, zs2, ev, _⟩ := pd_get pr po.keys (List.mem_of_getElem? eq1)
            obtain ⟨b2, hb2⟩ : ∃ b2, valV kvs (.inl qq.1) = some b2 := ⟨_, ev⟩
            have nk : (kvs.map (·.1)).Nodup := by
              rw [pd_keys pr, List.nodup_iff_pairwise_ne, List.pairwise_map]
              have := po.keys
              rw [List.nodup_iff_pairwise_ne] at this
              exact this.imp fun {x y} h z => h (Sum.inl.inj z)
            exact val_at nk (List.mem_of_getElem? ek)
          have had : a1 ≠ d := by
            rintro rfl
            rw [ed] at ha1
            cases ha1
          have ha5 : H6 a1 = some (.lst zs) := k5.same _ _ (kf _ _ ha1 (by simpa using had))
          have hz5 : LogsV K H6 zs qq.2 := k5.logs Wok.nil (kf.logs wd hzs)
          have hrp6 : SqT K H6 rp (rd.map V.str) := k5.sqt Wok.nil (kf.sqt wd (k04.sqt Wok.nil hrp))
          obtain ⟨qe, qne⟩ := po.is qq (List.mem_of_getElem? eq1)
          have hpw : Within qq.2 g := by rw [qe]; exact part_within gnd
          refine ⟨rfl, yes_ite ?_⟩
          refine ⟨_, rfl, _, rfl, d, .ref a1, rfl, ?_, ?_⟩
          · refine .inl ⟨kvs, .inl qq.1, .inr ⟨od, k5.same _ _ hfz⟩, rfl, hval.symm⟩
          refine ⟨_, rfl, _, rfl, by rw [sizeLine_eq]; exact Nat.le_of_ble_eq_true rfl, fun t ht => ?_⟩
          have k7 := Ke.new (W := []) ht (o := .tup [V.str c])
          have hrl := read_few hne wf rnd hrd
          refine ⟨rp, t, rd.map V.str, [V.str c], rfl, rfl, k7.sqt Wok.nil hrp6, SqT.of upd_same, by rw [List.length_map, List.length_singleton]; omega, fun rp2 H8 k8 hrp2 => ?_⟩
          have k78 := k7.trans k8
          refine ⟨_, rp2, qq.2, rd ++ [c], rfl, ⟨a1, zs, rfl, .inl (SqL.of (k78.same _ _ ha5)), k78.logs Wok.nil hz5⟩, hpw.1, qne, fun l hl => wf l (hpw.2 l hl), by have := hpw.len; omega, by rw [List.map_append]; exact hrp2, ?_, fun e he => ?_, by rw [List.length_append, List.length_singleton]; omega, fun b H9 k9 hbo => ?_⟩
          · exact List.nodup_append.mpr ⟨rnd, by simp, fun a ha b hb e => hcr (by rw [← List.mem_singleton.mp hb, ← e]; exact ha)⟩
          · rcases List.mem_append.mp he with h | h
            · obtain ⟨g1, g2, g3⟩ := hrd e h
              refine ⟨g1, fun l hl => g2 l (hpw.2 l hl), fun ⟨_, l, hl, m, hm, n⟩ => g3 ⟨g2, l, hpw.2 l hl, m, hpw.2 m hm, n⟩⟩
            · rw [List.mem_singleton.mp h]
              refine ⟨hcell, fun l hl => hs l (hpw.2 l hl), fun ⟨_, l, hl, m, hm, n⟩ => n ?_⟩
              rw [qe] at hl hm
              rw [(mem_part.mp hl).2, (mem_part.mp hm).2]
          · have k69 := k78.trans k9
            refine L2.Acc.more (k69.same _ _ hd) hl (by omega) ⟨bl ++ [b], by rw [List.map_append]; rfl, by rw [List.length_append, hbl]; rfl, fun j b' q' e6 e7 => ?_, (k5.trans k69).own hD⟩
            rcases Nat.lt_or_ge j bl.length with hj | hj
            · rw [List.getElem?_append_left hj] at e6
              exact hb j b' q' e6 e7
            · rw [List.getElem?_append_right hj] at e6
              have hj2 : j - bl.length = 0 := by
                have := (List.getElem?_eq_some_iff.mp e6).1
                simp at this
                omega
              have hji : j = i := by omega
              subst hji
              rw [hj2] at e6
              rw [eq1] at e7
              cases e7
              cases e6
              exact hbo
        · obtain ⟨bl, rfl, hbl, hb, k5⟩ := z
          refine ⟨k5.same _ _ hfz, ?_⟩
          have hd5 : (upd H5 d (.dK kvs)) D = some (.lst (bl.map V.bl)) := by rw [upd_ne hdD]; exact hd
          refine ⟨D, bl, rfl, SqL.of hd5, ?_⟩
          have k45 : Ke [d] H4 (upd H5 d (.dK kvs)) := (kf.trans k5.any).trans (Ke.on (by simp))
          have kk : Ke [] H1 (upd H5 d (.dK kvs)) := by
            intro b o eb _
            exact k45 b o ((k2.trans k4).same _ _ eb) (by rw [List.mem_singleton]; exact ne_of_none eb hd1)
          have hall : bl.all id = true ↔ ∀ v, (∃ l ∈ g, vOf l c = some v) → Ok (part g c v) := by
            rw [List.all_eq_true]
            constructor
            · rintro h v ⟨l, hl, hv⟩
              obtain ⟨qq, hq1, rfl⟩ := po.all l hl v hv
              obtain ⟨j, hj, ej⟩ := List.mem_iff_getElem.mp hq1
              have hjb : j < bl.length := by omega
              have := (hb j bl[j] qq (List.getElem?_eq_getElem hjb) (by rw [List.getElem?_eq_getElem hj, ej])).mp (h _ (List.getElem_mem hjb))
              rw [(po.is qq hq1).1] at this
              exact this
            · intro h b hbm
              obtain ⟨j, hj, ej⟩ := List.mem_iff_getElem.mp hbm
              have hjq : j < qs.length := by omega
              have hqm := List.getElem_mem hjq
              obtain ⟨qe, qne⟩ := po.is _ hqm
              obtain ⟨l, hl⟩ := List.exists_mem_of_ne_nil _ qne
              have hl2 := hl
              rw [qe] at hl2
              refine (hb j b qs[j] (by rw [List.getElem?_eq_getElem hj, ej]) (List.getElem?_eq_getElem hjq)).mpr ?_
              rw [qe]
              exact h _ ⟨l, (mem_part.mp hl2).1, (mem_part.mp hl2).2⟩
          refine ⟨_, rfl, ?_⟩
          cases hc : bl.all id with
          | true =>
            refine ite_t rfl ?_
            refine q true _ (k1.trans kk) ⟨fun _ => ok_parts hs (hall.mp hc), fun _ => rfl⟩
          | false =>
            refine ite_f rfl ⟨⟨_, _, rfl⟩, kk, fun c' hc' => ?_⟩
            rw [take_snoc e2] at hc'
            rcases List.mem_append.mp hc' with h | h
            · exact hno c' h
            · rw [List.mem_singleton.mp h]
              intro h2
              rw [hall.mpr h2] at hc
              cases hc
      · obtain ⟨⟨u2, u3, rfl⟩, k2, hno⟩ := z
        rw [List.length_map, List.take_length] at hno
        refine q false H2 (k1.trans k2) ⟨(fun z => nomatch z), fun ok => ?_⟩
        have hl2 : 2 ≤ g.length := by
          have := List.length_pos_iff.mpr hne
          omega
        obtain ⟨l, hl, m, hm, n⟩ := nodup_two gnd hl2
        obtain ⟨c, hsp⟩ := ok.splits hl hm n
        exact absurd (fun v _ => ok.mono fun x hx => (mem_part.mp hx).1) (hno c ((hcs c).mpr ⟨hsp.1, fun h => (hrd c h).2.2 hsp⟩))
end
end RO

/-! text P7 -/
set_option Elab.async false
set_option linter.all false
set_option maxRecDepth 100000
set_option maxHeartbeats 1000000
/-! o.m(e, ..), what is raised wished for at the caller's slots. -/
namespace L2
open PySem PySem.Spec PyProof.Rows
def tMethE (C : Addr) (m : Str) (sp : Sp) (E : St → XK) (ta : TE) (t : TA) : TE := fun σ H Q => ta σ H fun x H1 => ∃ a dx fs, x = .ref a ∧ H1 a = some (.ins C dx fs) ∧ fs.lookup m = none ∧ t σ H1 fun vs H2 => sp (x :: vs) H2 Q (E σ)
theorem pe_methE {X : Cx} {CX : CXT} {k : Nat} {f C : Addr} {fd : FuncData} {ps : List Str} {sp : Sp} {E : St → XK} {m : Str} {pos apos : Pos} {e o : Expr} {es : List Expr} {ta : TE} {t : TA} {pl : Sem Bool}
    (he : PE X o ta) (c : Cls X.K C) (hm : Meth X.K C m f) (F : FnOk X.prog X.w X.K X.mg X.base CX k f fd ps sp) (hr : Room k X.A) (hb : Binds X.K fd ps []) (hx : ∀ σ, PassesAt CX X σ (E σ)) (ha : PA X (e :: es) t)
    (hst : starEach (e :: es) X.env = (false, eval e X.env) :: starEach es X.env := by rfl) (hpl : (backTo pos (starEach es X.env)).any (·.1) = false := by rfl)
    (ht : eval (.Call (.Attribute o m apos) (e :: es) [] pos) X.env = (do
      let ov ← eval o X.env
      standAt apos.atName
      let (f, first) ← holding [ov] (getMethod ov m pl)
      callWith pos f first (backTo pos (starEach (e :: es) X.env)) (backToKw pos (keywordEach [] X.env))) := by rfl) :
    PE X (.Call (.Attribute o m apos) (e :: es) [] pos) (tMethE C m sp E ta t) := by
  refine ⟨fun pins s σ H Q I h => ?_⟩
  refine PySem.W.methodCall_KW (pl := pl) (thn (he.run pins s σ H _ I h) fun u s1 ⟨x, H1, I1, rx, a, dx, fs, ex, ea, l, q⟩ => ?_) ht
  subst ex
  obtain rfl : u = Value.ref a := rx
  refine getmeth_ok I1 ea c hm l ?_
  refine PySem.W.callWith_K (first := [.ref a]) (h₀ := X.base) I.ok.mod.kin hm.kp (thn (ha.run pos pins s1 σ H1 _ I1 q) fun us s2 ⟨vs, H2, I2, r, q2⟩ => ⟨I2.kIn, ?_⟩) hst hpl
  exact run_fnS (us := .ref a :: us) (vs := .ref a :: vs) F hr hb (hx σ) I2 (.cons rfl r) q2
end L2

/-! text E12 -/
set_option Elab.async false
set_option linter.all false
set_option maxRecDepth 100000
set_option maxHeartbeats 1000000
namespace RO
open PySem PySem.Spec PyProof.Rows L2
/-- logs that were asked for, what is held of them, what was refused with its group -/
structure FilI (done g : List Log) (rs : List (Log × List Log)) : Prop where
  ok : Ok g
  sub : ∀ l ∈ g, l ∈ done
  cnt : g.length + rs.length = done.length
  all : rs = [] → ∀ l ∈ done, l ∈ g
  ref : ∀ r ∈ rs, r.1 ∈ done ∧ r.1 ∉ g ∧ Stk r.2 ∧ r.2.Nodup ∧ (∀ x ∈ r.2, x ∈ g ∨ x = r.1) ∧ r.1 ∈ r.2
theorem FilI.start : FilI [] [] [] := ⟨ok_nil, by simp, rfl, by simp, by simp⟩
theorem FilI.take {done g g' : List Log} {rs : List (Log × List Log)} {l : Log} (I : FilI done g rs) (hl : l ∉ done) (p : g'.Perm (g ++ [l])) (o : Ok (g ++ [l])) : FilI (done ++ [l]) g' rs := by
  have hm : ∀ x, x ∈ g' ↔ x ∈ g ∨ x = l := fun x => by rw [p.mem_iff]; simp
  refine ⟨o.perm p, fun x hx => ?_, ?_, fun e x hx => ?_, fun r hr => ?_⟩
  · rcases (hm x).mp hx with h | h
    · exact List.mem_append_left _ (I.sub x h)
    · simp [h]
  · have := I.cnt
    rw [p.length_eq, List.length_append, List.length_append, List.length_singleton]
    omega
  · rcases List.mem_append.mp hx with h | h
    · exact (hm x).mpr (.inl (I.all e x h))
    · exact (hm x).mpr (.inr (List.mem_singleton.mp h))
  · obtain ⟨a, b, c, d, e, f⟩ := I.ref r hr
    refine ⟨List.mem_append_left _ a, fun h => ?_, c, d, fun x hx => ?_, f⟩
    · rcases (hm r.1).mp h with h | h
      · exact b h
      · exact hl (h ▸ a)
    · rcases e x hx with h | h
      · exact .inl ((hm x).mpr (.inl h))
      · exact .inr h
theorem FilI.no {done g B : List Log} {rs : List (Log × List Log)} {l : Log} (I : FilI done g rs) (hl : l ∉ done) (w : Within B (g ++ [l])) (s : Stk B) : FilI (done ++ [l]) g (rs ++ [(l, B)]) := by
  have hB : ∀ x ∈ B, x ∈ g ∨ x = l := fun x hx => by simpa using w.2 x hx
  refine ⟨I.ok, fun x hx => List.mem_append_left _ (I.sub x hx), ?_, fun e => ?_, fun r hr => ?_⟩
  · have := I.cnt
    rw [List.length_append, List.length_append, List.length_singleton, List.length_singleton]
    omega
  · simp at e
  · rcases List.mem_append.mp hr with h | h
    · obtain ⟨a, r2⟩ := I.ref r h
      exact ⟨List.mem_append_left _ a, r2⟩
    · rw [List.mem_singleton.mp h]
      exact ⟨by simp, fun h => hl (I.sub l h), s, w.1, hB, stk_new I.ok s hB⟩
theorem FilI.len {done g : List Log} {rs : List (Log × List Log)} (I : FilI done g rs) : g.length ≤ done.length ∧ rs.length ≤ done.length := by have := I.cnt; omega
theorem Ke.owns {W W' : List Addr} {H H1 H2 : Hp} (k : Ke W' H H1) (k2 : Ke W H1 H2) (h : ∀ b ∈ W, H b = none) : Ke W' H H2 := fun b o e n => k2 b o (k b o e n) fun hb => by rw [h b hb] at e; cases e
/-- a refused log and its group -/
def RefV (K : PySem.W.Frag) (H : Hp) (x : V) (r : Log × List Log) : Prop := ∃ t u v, x = .ref t ∧ SqT K H t [u, v] ∧ LogV K H u r.1 ∧ GrpT K H v r.2
theorem Ke.ref {K : PySem.W.Frag} {H H' : Hp} {W : List Addr} (k : Ke W H H') (w : Wok W H) {x : V} {r : Log × List Log} : RefV K H x r → RefV K H' x r := fun ⟨t, u, v, e, h1, h2, h3⟩ => ⟨t, u, v, e, k.sqt w h1, k.log w h2, k.grp w h3⟩
section
variable {P : Program} {w : World} {K : PySem.W.Frag} {mg : Str → Option Value} {base : Heap}
abbrev tSuite (K : PySem.W.Frag) : Addr → Value → Option Addr → TS := fun a cls d => tDrop (tBM K "list" rAppend (tVar 2) (tCons (tTup (tCons (tVar 3) (tCons (tXf a cls d (aStuck K) "group" (tVar 4)) tNil))) tNil))
abbrev tTry (K : PySem.W.Frag) : TS := fun D σ H => tDrop (tMethE (aRec K) "add" (spAdd K) (WE (wFirst K (.ref (aStuck K)) 4 (tSuite K) D)) (tVar 1) (tCons (tVar 3) tNil)) D σ H
/-! ### _law_filled -/
def spFil (K : PySem.W.Frag) : Sp := fun vs H Q _ => ∃ (p : Addr) (xs : List V) (g0 : List Log), vs = [.ref p] ∧ H p = some (.lst xs) ∧ LogsV K H xs g0 ∧ g0.Nodup ∧ (∀ l ∈ g0, WfLog l) ∧ g0.length ≤ 8 ∧
  ∀ H' t bk q rl ys g rs, Ke [] H H' → SqT K H' t [.ref bk, .ref rl] → RecV K H' bk q 8 g → H' rl = some (.lst ys) → Paired (RefV K H') ys rs → FilI g0 g rs → H bk = none → H q = none → H rl = none → Q (.ref t) H'
theorem sc_Fil : FnScope ["_law_some", "_law_book", "_law_refused", "_law_entry", "error"] ["_law_some"] (defScope sLawFilled) := ⟨rfl, rfl, rfl, by decide +kernel, rfl, by decide +kernel, by decide +kernel⟩
theorem ok_fil (T : Ty K mg) : C8.Cal P w K mg base 15 "_law_filled" (spFil K) [] := by
  obtain ⟨fd, F⟩ := T.d__law_filled
  obtain ⟨fdA, FA, BA⟩ := ok_add (P := P) (w := w) (base := base) T
  obtain ⟨fI, fdI, psI, dsI, MI, FI, hmI, bI, dI⟩ := (ok_RI (P := P) (w := w) (base := base) T).ex
  refine mk_cal F T.g__law_filled sc_Fil (fun _ _ _ _ _ _ us hl => match us, hl with | [_], _ => rfl) (fun vs H Q E h => ?_) (fun cdv A outer s H vs Q E hr h => ?_)
  · obtain ⟨p, xs, g0, rfl, _⟩ := h
    rfl
  · obtain ⟨p, xs, g0, rfl, hp, hg0, nd0, wf0, g8, q⟩ := h
    refine ⟨_, pss_cons (ps_par (i := 1) (j := 2) rfl sc_Fil.nd rfl rfl (by decide) rfl rfl (pa_cons (pe_make0 MI FI (hr.mono (by omega)) (by rfl) hmI bI dI pass0) (pa_cons (pe_lst pa_nil) pa_nil)) (by rfl))
      (pss_cons (ps_for PassesOwn.never rfl (pi_list (pv 0)) (pg_name (i := 3) sc_Fil.nd rfl (Or.inl rfl))
        (pss_one (ps_try_first (ts := tSuite K) rfl rfl sc_Fil.nd (i := 4) rfl rfl ⟨rfl, by decide, .inl T.g_Stuck⟩
          (fun W pn xe tk pw => pss_one (ps_expr (pe_methE (pv 1) T.r_cls T.r_add FA (hr.mono (by omega)) BA (fun σ => passAt tk σ) (pa_cons (pv 3) pa_nil))))
          (fun a oe cls d pn hz hf => by
            refine pss_one (ps_expr ?_)
            refine pe_bm PySem.F.plainAttrs_list PySem.F.slot_list_append PySem.F.type_list_append mt_append ?_ ?_
            · exact pv 2
            · refine pa_cons ?_ pa_nil
              refine pe_tup ?_
              refine pa_cons (pv 3) ?_
              refine pa_cons ?_ pa_nil
              exact pe_xf T.s_xf T.s_ng hz hf (pv 4)))))
      (pss_one (ps_ret (pe_tup (pa_cons (pv 1) (pa_cons (pv 2) pa_nil)))))), ?_⟩
    refine fun bk dx hbk hdx hne => ?_
    refine ⟨bk, aDfl K, dx, rfl, upd_same, T.r_dfl _, fun H1 q1 k1 hq0 rv => ⟨rfl, Nat.zero_le _, fun rl hrl => ⟨_, _, rfl, ?_⟩⟩⟩
    have hbk2 : (upd H dx (.own bk)) bk = none := by rw [upd_ne hne.symm]; exact hbk
    have k0 : Ke [] H (upd (upd H dx (.own bk)) bk (.ins (aRec K) dx [])) := (Ke.new hdx).trans (Ke.new hbk2)
    have k01 : Ke [] H H1 := k0.owns k1 (fun b hb => by rw [List.mem_singleton.mp hb]; exact hbk)
    have hqH : H q1 = none := k0.same.free hq0
    have hrlH : H rl = none := k01.same.free hrl
    obtain ⟨dx1, v1, ps1, e1, e2, _, _⟩ := rv.ex
    have hrb : rl ≠ bk := by rintro rfl; rw [e1] at hrl; cases hrl
    have hrq : rl ≠ q1 := by rintro rfl; rw [e2] at hrl; cases hrl
    have k02 := k01.trans (Ke.new hrl (o := .lst []))
    have rv2 := rv.ke0 (Ke.new hrl (o := .lst []))
    have hrl2 : (upd H1 rl (.lst [])) rl = some (.lst []) := upd_same
    generalize upd H1 rl (.lst []) = H2 at *
    refine ⟨_, rfl, p, rfl, ⟨_, SqL.of (k02.same _ _ hp)⟩, for_it walk_list (tb := tTry K) (fun i σ H3 => ∃ u3 u4 ys g rs, σ = [some (.ref p), some (.ref bk), some (.ref rl), u3, u4] ∧ Ke [] H H3 ∧ RecV K H3 bk q1 i g ∧ H3 rl = some (.lst ys) ∧ Paired (RefV K H3) ys rs ∧ FilI (g0.take i) g rs)
      ⟨none, none, [], [], [], rfl, k02, rv2, hrl2, .nil, by rw [List.take_zero]; exact FilI.start⟩ (fun i σ H3 _ z => SqL.of (z.choose_spec.choose_spec.choose_spec.choose_spec.choose_spec.2.1.same _ _ hp)) (fun i x σ H3 H4 hi z y => ?_) (fun σ H3 z => ?_)⟩
    · obtain ⟨u3, u4, ys, g, rs, rfl, k3, rv3, hrl3, hrs, I⟩ := z
      obtain ⟨rfl, e3⟩ := y
      obtain ⟨l, e4, hlg⟩ := Paired.get hg0 i x e3
      have hi8 : i < 8 := by have := hg0.length; omega
      have hl3 := k3.log Wok.nil hlg
      have wl := wf0 l (List.mem_of_getElem? e4)
      have hlt : l ∉ g0.take i := by
        intro h
        have n := nd0
        have e5 := take_snoc e4
        have n2 : (g0.take (i + 1)).Nodup := n.sublist (List.take_sublist ..)
        rw [e5] at n2
        exact (List.nodup_append.mp n2).2.2 l h l (by simp) rfl
      have hlen := I.len
      rw [List.length_take] at hlen
      obtain ⟨dx3, v3, ps3, f1, f2, f3, gi3⟩ := rv3.ex
      refine ⟨_, rfl, bk, dx3, _, rfl, f1, rfl, _, rfl, bk, q1, i, g, x, l, rfl, rv3, by omega, I.ok, hl3, wl, fun h => hlt (I.sub l h), by omega, fun H' g' k' rv' pm o => ?_, fun H' d v' B k' hd hB hw hs => ?_⟩
      · have wr : Wok [bk, q1] H4 := rv3.wok
        refine ⟨_, _, ys, g', rs, rfl, k3.owns k' (fun b hb => ?_), rv', k' _ _ hrl3 (by simp [hrb, hrq]), Paired.mapP hrs fun _ _ => k'.ref wr, ?_⟩
        · simp only [List.mem_cons, List.not_mem_nil, or_false] at hb
          rcases hb with rfl | rfl
          · exact hbk
          · exact hqH
        · rw [take_snoc e4]
          exact I.take hlt pm o
      · refine ⟨T.s_em, fun a ha => ?_⟩
        have hrl' := k'.same _ _ hrl3
        refine ⟨_, rfl, .inl ⟨rfl, _, SqL.of hrl'⟩, _, rfl, _, rfl, rfl, rfl, d, _, v', rfl, hd, rfl, by rw [sizeLine_eq]; exact Nat.le_of_ble_eq_true rfl, fun t ht => ?_⟩
        have k5 := Ke.new (W := []) ht (o := .tup [x, v'])
        have k45 := k'.trans k5
        have hrl5 := k45.same _ _ hrl3
        have ht5 : SqT K (upd H' t (.tup [x, v'])) t [x, v'] := SqT.of upd_same
        have hx5 := k45.log Wok.nil hl3
        have hB5 := k5.grp Wok.nil hB
        have rv5 := rv3.ke0 k45
        have hrs5 : Paired (RefV K (upd H' t (.tup [x, v']))) ys rs := Paired.mapP hrs fun _ _ => k45.ref Wok.nil
        have k05 := k3.trans k45
        generalize upd H' t (.tup [x, v']) = H5 at *
        have hyl := hrs5.length
        refine ⟨rl, ys, _, rfl, rfl, hrl5, by rw [sizeLine_eq]; omega, ?_⟩
        have kr : Ke [rl] H5 (upd H5 rl (.lst (ys ++ [.ref t]))) := Ke.on (by simp)
        have wr : Wok [rl] H5 := Wok.one (mut_lst hrl5)
        have rv6 := rv5.ke kr wr (by simpa using hrb.symm) (by simpa using hrq.symm)
        obtain ⟨dx6, v6, ps6, h1, h2, h3, h4⟩ := rv6.ex
        refine ⟨_, _, ys ++ [.ref t], g, rs ++ [(l, B)], rfl, k05.own hrlH, ⟨dx6, v6, ps6, h1, h2, by omega, h4⟩, upd_same, Paired.app (Paired.mapP hrs5 fun _ _ => kr.ref wr) (.cons ⟨t, x, v', rfl, kr.sqt wr ht5, kr.log wr hx5, kr.grp wr hB5⟩ .nil), ?_⟩
        rw [take_snoc e4]
        exact I.no hlt hw hs
    · obtain ⟨u3, u4, ys, g, rs, rfl, k3, rv3, hrl3, hrs, I⟩ := z
      have hxl := hg0.length
      rw [hxl, List.take_length] at I
      refine ⟨_, rfl, _, rfl, by rw [sizeLine_eq]; exact Nat.le_of_ble_eq_true rfl, fun t ht => ?_⟩
      have k5 := Ke.new (W := []) ht (o := .tup [.ref bk, .ref rl])
      have rv5 := rv3.ke0 k5
      obtain ⟨dx6, v6, ps6, h1, h2, h3, h4⟩ := rv5.ex
      exact q _ t bk q1 rl ys g rs (k3.trans k5) (SqT.of upd_same) ⟨dx6, v6, ps6, h1, h2, by omega, h4⟩ (k5.same _ _ hrl3) (Paired.mapP hrs fun _ _ => k5.ref Wok.nil) I hbk hqH hrlH
end
end RO

/-! text E13 -/
set_option Elab.async false
set_option linter.all false
set_option maxRecDepth 100000
set_option maxHeartbeats 1000000
namespace RO
open PySem PySem.Spec PyProof.Rows L2
abbrev tSuite2 (K : PySem.W.Frag) : Addr → Value → Option Addr → TS := fun a cls d => tAsg (tXf a cls d (aStuck K) "group" (tVar 5)) (gName 2)
abbrev tTry2 (K : PySem.W.Frag) : TS := fun D σ H => tRet (tOp rIsB (tMethE (aRec K) "add" (spAdd K) (WE (wFirst K (.ref (aStuck K)) 5 (tSuite2 K) D)) (tVar 0) (tCons (tVar 1) tNil)) (tC (.bl true))) D σ H
abbrev tLetB (K : PySem.W.Frag) : TS := tSeq (tFor (iSq K (tVar 2)) (gName 4) (tIfS (tTest (tOp (rEqM K true) (tVar 4) (tVar 1))) (tDrop (tMeth (aRec K) "drop" (spDrop K) [] C8.E0 (tVar 0) (tCons (tVar 4) tNil))) tNext)) (tTry2 K)
section
variable {P : Program} {w : World} {K : PySem.W.Frag} {mg : Str → Option Value} {base : Heap}
/-! ### _law_let_in -/
/-- a group that is to be gone through: neither the recorder nor its past -/
def GrpA (K : PySem.W.Frag) (H : Hp) (W : List Addr) (v : V) (g : List Log) : Prop := ∃ a xs, v = .ref a ∧ Sq K H a xs ∧ (SqT K H a xs ∨ a ∉ W) ∧ LogsV K H xs g
theorem GrpT.a {K : PySem.W.Frag} {H : Hp} {W : List Addr} {v : V} {g : List Log} (h : GrpT K H v g) : GrpA K H W v g := let ⟨a, xs, e, s, l⟩ := h; ⟨a, xs, e, .inr s, .inl s, l⟩
def spLet (K : PySem.W.Frag) : Sp := fun vs H Q _ => ∃ bk q n g u l gv B, vs = [.ref bk, u, gv] ∧ RecV K H bk q n g ∧ n ≤ 100 ∧ Ok g ∧ LogV K H u l ∧ WfLog l ∧ l ∉ g ∧ g.length ≤ 8 ∧
  GrpA K H [bk, q] gv B ∧ B.Nodup ∧ Stk B ∧ (∀ x ∈ B, x ∈ g ∨ x = l) ∧ ∀ H', Ke [bk, q] H H' → Q (.bl true) H'
theorem sc_Let : FnScope ["_law_book", "_law_entry", "_law_group", "_law_turn", "_law_each", "error"] ["_law_book", "_law_entry", "_law_group"] (defScope sLawLetIn) := ⟨rfl, rfl, rfl, by decide +kernel, rfl, by decide +kernel, by decide +kernel⟩
theorem ok_let (T : Ty K mg) : C8.Cal P w K mg base 15 "_law_let_in" (spLet K) [] := by
  obtain ⟨fd, F⟩ := T.d__law_let_in
  obtain ⟨fdA, FA, BA⟩ := ok_add (P := P) (w := w) (base := base) T
  have c1 : C8.Met P w K mg base 5 (aRec K) "drop" (spDrop K) [] := ok_drop T
  refine mk_cal F T.g__law_let_in sc_Let (fun _ _ _ _ _ _ us hl => match us, hl with | [_, _, _], _ => rfl) (fun vs H Q E h => ?_) (fun cdv A outer s H vs Q E hr h => ?_)
  · obtain ⟨bk, q, n, g, u, l, gv, B, rfl, _⟩ := h
    rfl
  · obtain ⟨bk, q, n, g, u, l, gv, B, rfl, rv, hn, ok, hl, wl, hnl, g8, hgv, nB, sB, hB, k⟩ := h
    refine ⟨_, pss_cons (ps_for PassesOwn.never rfl (pi_range1 (by rfl) T.b_range (pa_cons pe_int pa_nil)) (pg_name (i := 3) sc_Let.nd rfl (Or.inl rfl))
        (pss_cons (ps_for PassesOwn.never rfl (pi_sq (pv 2)) (pg_name (i := 4) sc_Let.nd rfl (Or.inl rfl))
          (pss_one (ps_if (pt_cmpR (op_neM hr) (pv 4) (pv 1) (nomark _)) (pss_one (ps_expr (C8.pe_mt c1 hr (by omega) (pv 0) (pa_cons (pv 4) pa_nil)))) pss_nil)))
        (pss_one (ps_try_first (ts := tSuite2 K) rfl rfl sc_Let.nd (i := 5) rfl rfl ⟨rfl, by decide, .inl T.g_Stuck⟩
          (fun W pn xe tk pw => pss_one (ps_ret (pe_cmpR op_isBl (pe_methE (pv 0) T.r_cls T.r_add FA (hr.mono (by omega)) BA (fun σ => passAt tk σ) (pa_cons (pv 1) pa_nil)) pe_bl (nomark _))))
          (fun a oe cls d pn hz hf => by
            refine pss_one ?_
            exact ps_set sc_Let.nd (i := 2) rfl (Or.inl rfl) (pe_xf T.s_xf T.s_ng hz hf (pv 5)))))))
      (pss_one (ps_ret pe_bl)), ?_⟩
    have wfB : ∀ x ∈ B, WfLog x := by
      obtain ⟨_, _, _, _, _, _, gi⟩ := rv.ex
      intro x hx
      rcases hB x hx with h | h
      · exact gi.wf x h
      · rw [h]
        exact wl
    have w0 := rv.wok
    refine ⟨20, rfl, by decide, by decide, for_it walk_range (tb := tLetB K) (fun i σ H1 => ∃ gv u3 u4 u5 g n B, σ = [some (.ref bk), some u, some gv, u3, u4, u5] ∧ Ke [bk, q] H H1 ∧ RecV K H1 bk q n g ∧ n ≤ 100 + 10 * i ∧ Ok g ∧ l ∉ g ∧ g.length + i ≤ 8 ∧
        GrpA K H1 [bk, q] gv B ∧ B.Nodup ∧ Stk B ∧ (∀ x ∈ B, x ∈ g ∨ x = l) ∧ ∀ x ∈ B, WfLog x)
      ⟨gv, none, none, none, g, n, B, rfl, Ke.rfl, rv, by omega, ok, hnl, by omega, hgv, nB, sB, hB, wfB⟩ (fun _ _ _ _ _ => trivial) (fun i x σ H1 H2 hi z y => ?_) (fun σ H1 z => ?_)⟩
    · obtain ⟨rfl, rfl⟩ := y
      obtain ⟨gv, u3, u4, u5, g, n, B, rfl, k1, rv1, hn1, ok1, hnl1, gl1, ⟨a, xs, rfl, hsq, hat, hlogs⟩, nB1, sB1, hB1, wB1⟩ := z
      have w1 := rv1.wok
      have hl1 := k1.log w0 hl
      have hxl := hlogs.length
      have hBl : B.length ≤ g.length + 1 := by
        have := len_sub (g := g ++ [l]) nB1 fun x hx => by simpa using hB1 x hx
        simpa using this
      refine ⟨_, rfl, a, xs, H2, rfl, hsq, Ke.rfl, fun J G hJ hG => for_it hJ (fun j σ H3 => ∃ u4 n' g', σ = [some (.ref bk), some u, some (.ref a), some (.int (0 + (i : Int))), u4, u5] ∧ Ke [bk, q] H2 H3 ∧ RecV K H3 bk q n' g' ∧ n' ≤ n + j ∧ (∀ x ∈ g', x ∈ g) ∧ (∀ x ∈ B.take j, x ≠ l → x ∉ g') ∧ ∀ x ∈ g, x ∉ B.take j → x ∈ g')
        ⟨u4, n, g, rfl, Ke.rfl, rv1, by omega, fun _ h => h, by simp, fun _ h _ => h⟩ (fun j σ H3 _ z => ?_) (fun j x σ H3 H4 hj z y => ?_) (fun σ H3 z => ?_)⟩
      · obtain ⟨_, _, _, _, k3, _⟩ := z
        exact hG [bk, q] H3 k3 w1 hat
      · obtain ⟨u4, n', g', rfl, k3, rv3, hn3, s1, s2, s3⟩ := z
        obtain ⟨rfl, e1⟩ := y
        obtain ⟨b, e2, hb⟩ := Paired.get hlogs j x e1
        have hb3 := k3.log w1 hb
        have hl3 := k3.log w1 hl1
        have hbm := List.mem_of_getElem? e2
        refine ⟨_, rfl, _, rfl, eL b, eL l, hb3.dp, hl3.dp, lay_eL (wB1 b hbm), lay_eL wl, by have := depth_eL b; omega, !decide (b = l), ?_, ?_⟩
        · show V.bl (!PyData.eqv (eL b) (eL l)) = V.bl (!decide (b = l))
          rw [eqv_eL]
        by_cases hbl : b = l
        · refine ite_f (by rw [decide_eq_true hbl]; rfl) ?_
          refine ⟨_, n', g', rfl, k3, rv3, by omega, s1, fun c hc hne => ?_, fun c hc hnc => s3 c hc fun h => hnc ?_⟩
          · rw [take_snoc e2] at hc
            rcases List.mem_append.mp hc with h | h
            · exact s2 c h hne
            · rw [List.mem_singleton.mp h] at hne
              exact absurd hbl hne
          · rw [take_snoc e2]
            exact List.mem_append_left _ h
        · refine ite_t (by rw [decide_eq_false hbl]; rfl) ?_
          obtain ⟨dx3, v3, ps3, f1, f2, f3, gi3⟩ := rv3.ex
          have hbg : b ∈ g := (hB1 b hbm).resolve_right hbl
          have hnt : b ∉ B.take j := by
            intro h
            have n2 : (B.take (j + 1)).Nodup := nB1.sublist (List.take_sublist ..)
            rw [take_snoc e2] at n2
            exact (List.nodup_append.mp n2).2.2 b h b (by simp) rfl
          refine ⟨_, rfl, bk, dx3, _, rfl, f1, rfl, _, rfl, bk, q, n', g', x, b, rfl, rv3, by omega, hb3, wB1 b hbm, s3 b hbg hnt, fun H' k' rv' => ?_⟩
          refine ⟨_, n' + 1, _, rfl, k3.trans k', rv', by omega, fun c hc => s1 c (List.mem_filter.mp hc).1, fun c hc hne h => ?_, fun c hc hnc => ?_⟩
          · obtain ⟨h1, h2⟩ := List.mem_filter.mp h
            rw [take_snoc e2] at hc
            rcases List.mem_append.mp hc with h | h
            · exact s2 c h hne h1
            · rw [List.mem_singleton.mp h] at h2
              simp at h2
          · rw [take_snoc e2] at hnc
            refine List.mem_filter.mpr ⟨s3 c hc fun h => hnc (List.mem_append_left _ h), ?_⟩
            have : c ≠ b := fun h => hnc (by rw [h]; simp)
            simp [this]
      · obtain ⟨u4, n', g', rfl, k3, rv3, hn3, s1, s2, s3⟩ := z
        rw [hxl, List.take_length] at s2
        obtain ⟨dx3, v3, ps3, f1, f2, f3, gi3⟩ := rv3.ex
        have hl3 := k3.log w1 hl1
        have ok3 : Ok g' := ok1.mono s1
        have hnl3 : l ∉ g' := fun h => hnl1 (s1 l h)
        obtain ⟨m, hm, hml⟩ : ∃ m ∈ B, m ≠ l := by
          obtain ⟨⟨x, hx, y, hy, n⟩, _⟩ := sB1
          by_cases h : x = l
          · exact ⟨y, hy, fun h2 => n (h.trans h2.symm)⟩
          · exact ⟨x, hx, h⟩
        have hmg : m ∈ g := (hB1 m hm).resolve_right hml
        have hlt : g'.length ≤ g.length - 1 := by
          have := len_sub (h := g') (g := g.erase m) gi3.nd fun x hx => (List.mem_erase_of_ne (fun e => s2 m hm hml (by rw [← e]; exact hx))).mpr (s1 x hx)
          rwa [List.length_erase_of_mem hmg] at this
        have hgp := List.length_pos_of_mem hmg
        have k13 := k1.trans k3
        refine ⟨_, rfl, bk, dx3, _, rfl, f1, rfl, _, rfl, bk, q, n', g', u, l, rfl, rv3, by omega, ok3, hl3, wl, hnl3, by omega, fun H' g2 k' rv' pm o => ⟨true, true, rfl, rfl, ?_⟩, fun H' d v' B' k' hd hB' hw hs => ?_⟩
        · exact k H' (k13.trans k')
        · refine ⟨T.s_em, fun e he => ?_⟩
          refine ⟨_, rfl, rfl, rfl, d, _, v', rfl, hd, rfl, ?_⟩
          have hBw : ∀ x ∈ B', x ∈ g' ∨ x = l := fun x hx => by simpa using hw.2 x hx
          refine ⟨v', _, _, _, g', n', B', rfl, k13.trans k'.any, rv3.ke0 k', by omega, ok3, hnl3, by omega, hB'.a, hw.1, hs, hBw, fun x hx => ?_⟩
          rcases hBw x hx with h | h
          · exact gi3.wf x h
          · rw [h]
            exact wl
    · obtain ⟨gv, u3, u4, u5, g, n, B, rfl, k1, rv1, hn1, ok1, hnl1, gl1, _⟩ := z
      have : (20 : Int).toNat = 20 := rfl
      omega
end
end RO

/-! text E14 -/
set_option Elab.async false
set_option linter.all false
set_option maxRecDepth 100000
set_option maxHeartbeats 1000000
namespace RO
open PySem PySem.Spec PyProof.Rows L2
def eR (r : Log × List Log) : PyData := .tuple [eL r.1, eG r.2]
section
variable {K : PySem.W.Frag} {H : Hp}
theorem RefV.dp {x : V} {r : Log × List Log} (h : RefV K H x r) : Dp K H x (eR r) := by
  obtain ⟨t, u, v, rfl, h1, h2, h3⟩ := h
  exact .tup h1 (.cons h2.dp (.cons h3.dp .nil))
theorem refs_dp : ∀ {xs : List V} {rs : List (Log × List Log)}, Paired (RefV K H) xs rs → DpAll K H xs (rs.map eR)
  | _, _, .nil => .nil
  | _, _, .cons h t => .cons h.dp (refs_dp t)
theorem lay_refs {rs : List (Log × List Log)} (h : ∀ r ∈ rs, WfLog r.1 ∧ ∀ l ∈ r.2, WfLog l) : PyData.canLayAll0 (rs.map eR) = true := layAll eR rs fun r hr => by
  have a := lay_eL (h r hr).1
  have b : PyData.canLay0 (eG r.2) = true := lay_tup (lay_logs (h r hr).2)
  simp [eR, PyData.canLay0, PyData.canLayAll0, a, b]
end
section
variable {P : Program} {w : World} {K : PySem.W.Frag} {mg : Str → Option Value} {base : Heap}
/-! ### _law_right -/
def spRight (K : PySem.W.Frag) : Sp := fun vs H Q _ => ∃ (b : Addr) (v : V) (n : Nat) (g : List Log), vs = [.ref b, v] ∧ BoxV H b n ∧ n ≤ 890000 ∧ GIn K H v g ∧ g ≠ [] ∧ g.length ≤ 8 ∧ ∀ H', Ke [b] H H' → BoxV H' b (n + 8) → Q (.bl true) H'
theorem sc_Right : FnScope ["_law_box_here", "_law_family", "_law_book", "_law_refused", "_law_is_good", "_law_entry", "_law_group", "_law_each"] ["_law_box_here", "_law_family"] (defScope sLawRight) := ⟨rfl, rfl, rfl, by decide +kernel, rfl, by decide +kernel, by decide +kernel⟩
theorem ok_right (T : Ty K mg) : C8.Cal P w K mg base 70 "_law_right" (spRight K) [] := by
  obtain ⟨fd, F⟩ := T.d__law_right
  have c1 : C8.Cal P w K mg base 2 "_law_mixed" (spMixed K) [] := ok_mixed T.toTx
  have c2 : C8.Cal P w K mg base 15 "_law_filled" (spFil K) [] := ok_fil T
  have c3 : C8.Cal P w K mg base 63 "_law_fits" (spFits K 61) [] := ok_fits T.toTx 61
  have c4 : C8.Cal P w K mg base 2 "_law_is_stuck" (spIs K) [] := ok_is T.toTx
  have c5 : C8.Cal P w K mg base 15 "_law_let_in" (spLet K) [] := ok_let T
  have c6 : C8.Met P w K mg base 1 (aRec K) "logs" (spRLogs K) [] := ok_RLogs T
  obtain ⟨fdL, FL, BL⟩ := ok_RL (P := P) (w := w) (base := base) T
  have FR : FnR P w K mg base C8.CX0 1 (He.ma K (aRec K) "__len__") (spRL K) := (FL.raw BL .nil).imp fun vs H Q E h => by
    show spRL K (vs ++ []) H Q E
    rw [List.append_nil]
    exact h
  refine mk_cal F T.g__law_right sc_Right (fun _ _ _ _ _ _ us hl => match us, hl with | [_, _], _ => rfl) (fun vs H Q E h => ?_) (fun cdv A outer s H vs Q E hr h => ?_)
  · obtain ⟨b, v, n, g, rfl, _⟩ := h
    rfl
  · obtain ⟨b, v, n, g, rfl, bx, hn, gi, gne, g8, k⟩ := h
    refine ⟨_, pss_cons (ps_asg (C8.pe_c c2 hr (by omega) (by rfl) (pa_cons (C8.pe_c c1 hr (by omega) (by rfl) (pa_cons (pv 0) (pa_cons (pv 1) pa_nil))) pa_nil)) (pg_tup rfl (pgs_cons (pg_name (i := 2) sc_Right.nd rfl (Or.inl rfl)) (pgs_cons (pg_name (i := 3) sc_Right.nd rfl (Or.inl rfl)) pgs_nil))))
      (pss_cons (ps_set sc_Right.nd (i := 4) rfl (Or.inl rfl) (C8.pe_c c3 hr (by omega) (by rfl) (pa_cons (pv 1) (pa_cons (pe_tup pa_nil) pa_nil))))
      (pss_cons (ps_if (PW.pt (pw_or (pt_cmp (pc_isN (pv 3))) (pw_or (pt_cmpR op_ne (pe_cmpR (op_eqM hr) (pv 3) (pe_lst pa_nil) (nomark _)) (pv 4) (nomark _))
          (pw_or1 (pt_cmpR op_ne (pe_op op_add (pe_callB (call_lenO (n := 1) T.r_lenF T.r_lenT FR (hr.mono (by omega)) pass0 (E := C8.E0)) (by rfl) T.b_len PySem.boot_len (pa_cons (pv 2) pa_nil)) (pe_callB call_len_seq (by rfl) T.b_len PySem.boot_len (pa_cons (pv 3) pa_nil))) (pe_callB call_len_seq (by rfl) T.b_len PySem.boot_len (pa_cons (pv 1) pa_nil)) (nomark _))))))
        (pss_one (ps_ret pe_nv)) pss_nil)
      (pss_cons (ps_if (PW.pt (pw_and (pt_cmpR (op_neM hr) (C8.pe_mt0 c6 hr (by omega) (pv 2)) (pe_tup pa_nil) (nomark _)) (pw_and1 (pt_not (pt_val (C8.pe_c c3 hr (by omega) (by rfl) (pa_cons (C8.pe_mt0 c6 hr (by omega) (pv 2)) (pa_cons (pe_tup pa_nil) pa_nil))))))))
        (pss_one (ps_ret pe_nv)) pss_nil)
      (pss_cons (ps_for PassesOwn.never rfl (pi_list (pv 3)) (pg_tup rfl (pgs_cons (pg_name (i := 5) sc_Right.nd rfl (Or.inl rfl)) (pgs_cons (pg_name (i := 6) sc_Right.nd rfl (Or.inl rfl)) pgs_nil)))
        (pss_one (ps_if (PW.pt (pw_or (pt_val (C8.pe_c c3 hr (by omega) (by rfl) (pa_cons (pe_callTy call_tupF (by rfl) T.b_tuple boot_tuple (pa_cons (pe_callB (cr_sortedG hr) (by rfl) T.b_sorted boot_sorted (pa_cons (pe_op op_catN (C8.pe_mt0 c6 hr (by omega) (pv 2)) (pe_tup (pa_cons (pv 5) pa_nil))) pa_nil)) pa_nil)) (pa_cons (pe_tup pa_nil) pa_nil))))
            (pw_or (pt_cmpR (op_notInS hr) (pv 5) (pv 6) rfl) (pw_or1 (pt_not (pt_val (C8.pe_c c4 hr (by omega) (by rfl) (pa_cons (pv 6) pa_nil))))))))
          (pss_one (ps_ret pe_nv)) pss_nil)))
      (pss_cons (ps_if (pt_cmpR (op_neM hr) (pv 3) (pe_lst pa_nil) (nomark _))
        (pss_cons (ps_set sc_Right.nd (i := 5) rfl (Or.inl rfl) (pe_ix ix_tup (pe_ix ix_list (pv 3) pe_int (fun _ _ => rfl)) pe_int (fun _ _ => rfl)))
        (pss_cons (ps_setLc (i := 6) (own := [("_law_each", 7)]) (g := gName 7) (tt := tYes) rfl sc_Right.nd rfl rfl (by rfl) (pi_tup (pe_ix ix_tup (pe_ix ix_list (pv 3) pe_int (fun _ _ => rfl)) pe_int (fun _ _ => rfl)))
            (blkOk_by (own := [("_law_each", 7)]) (N := ["_law_box_here", "_law_family", "_law_book", "_law_refused", "_law_is_good", "_law_entry", "_law_group", "_law_each"]) (sc := defScope sLawRight) (by decide +kernel)) (fun _ _ _ _ _ => pg_name (i := 7) sc_Right.nd rfl (Or.inl rfl)) (fun _ _ _ _ _ => pts_nil)
            (fun _ _ _ _ _ => pv 7))
        (pss_one (ps_ret (C8.pe_c c5 hr (by omega) (by rfl) (pa_cons (pv 2) (pa_cons (pv 5) (pa_cons (pv 6) pa_nil)))))))) pss_nil)
      (pss_one (ps_ret pe_bl))))))), ?_⟩
    refine ⟨_, rfl, _, rfl, b, v, n, g, rfl, bx, by omega, gi, g8, fun p H1 xs g' k1 bx1 hpH hp1 hxs pm => ?_⟩
    have pml := pm.length_eq
    refine ⟨p, xs, g', rfl, hp1, hxs, pm.nodup_iff.mpr gi.nd, fun l hl => gi.wf l (pm.mem_iff.mp hl), by omega, fun H2 t bk q rl ys held rs k2 ht rv hrl hrs I hbk hq0 hrl0 => ?_⟩
    refine ⟨t, _, rfl, ht, rfl, _, _, rfl, _, _, rfl, rfl, ?_⟩
    have k02 : Ke [b] H H2 := k1.trans k2.any
    have bx2 := bx1.ke k2 (by simp)
    have hbkb := not_box (H' := H1) bx1 hbk
    have hqb := not_box (H' := H1) bx1 hq0
    have hbkH := new_at k1 bx1 hbk
    have hqH := new_at k1 bx1 hq0
    have wb := bx.wok
    have Ilen := I.len
    have Icnt := I.cnt
    have okg : Ok g ↔ Ok g' := ⟨fun o => o.perm pm, fun o => o.perm pm.symm⟩
    have fact1 : rs = [] ↔ Ok g := by
      rw [okg]
      constructor
      · intro e
        exact I.ok.mono (I.all e)
      · intro o
        cases hrs' : rs with
        | nil => rfl
        | cons r0 rr =>
          exfalso
          obtain ⟨a1, a2, a3, a4, a5, a6⟩ := I.ref r0 (by rw [hrs']; simp)
          exact stk_not a3 (fun x hx => (a5 x hx).elim (I.sub x) (fun e => e ▸ a1)) o
    have wfr : ∀ r ∈ rs, WfLog r.1 ∧ ∀ l ∈ r.2, WfLog l := by
      intro r hr
      obtain ⟨a1, a2, a3, a4, a5, a6⟩ := I.ref r hr
      have w1 : WfLog r.1 := gi.wf _ (pm.mem_iff.mp a1)
      refine ⟨w1, fun l hl => ?_⟩
      rcases a5 l hl with h | h
      · exact gi.wf _ (pm.mem_iff.mp (I.sub l h))
      · rw [h]
        exact w1
    have hyl := hrs.length
    -- is_good
    refine ⟨_, rfl, Nat.zero_le _, fun e he => ?_⟩
    have k3 : Ke [] H2 (upd H2 e (.tup [])) := Ke.new he
    have he3 : SqT K (upd H2 e (.tup [])) e (([] : List Str).map V.str) := SqT.of upd_same
    generalize upd H2 e (.tup []) = H3 at *
    have gi3 := gi.keW (k02.trans k3.any) wb
    refine ⟨_, e, g, [], rfl, gi3.at_.s, gi.nd, gne, gi.wf, gi.len, he3, by simp, by simp, by simp, fun bg H4 k4 hbg => ?_⟩
    have k24 := k3.trans k4
    -- the first test
    refine ⟨_, rfl, false, rfl, ?_⟩
    refine iteF ?_
    refine ⟨_, rfl, Nat.zero_le _, fun e5 he5 => ?_⟩
    have k5 : Ke [] H4 (upd H4 e5 (.lst [])) := Ke.new he5
    have he5' : (upd H4 e5 (.lst [])) e5 = some (.lst []) := upd_same
    generalize upd H4 e5 (.lst []) = H5 at *
    have k25 := k24.trans k5
    have k05 : Ke [b] H H5 := k02.trans k25.any
    have hrl5 := k25.same _ _ hrl
    have hrs5 : Paired (RefV K H5) ys rs := Paired.mapP hrs fun _ _ => k25.ref Wok.nil
    have rv5 := rv.ke0 k25
    have gi5 := gi.keW k05 wb
    obtain ⟨dx5, v5, ps5, f1, f2, f3, f4⟩ := rv5.ex
    refine ⟨.list (rs.map eR), .list [], .lst (SqL.of hrl5) (refs_dp hrs5), .lst (SqL.of he5') .nil, by simp [PyData.canLay0, lay_refs wfr], by simp [PyData.canLay0, PyData.canLayAll0], Nat.le_trans (Nat.min_le_right ..) (by simp [PyData.depth, PyData.depthAll]), ?_⟩
    refine ⟨_, rfl, rfl, _, rfl, ?_⟩
    have hev : PyData.eqv (.list (rs.map eR)) (.list []) = bg := by
      rw [Bool.eq_iff_iff, hbg, ← fact1]
      cases rs <;> simp [PyData.eqv, PyData.eqvAll]
    refine ite_f (by
      show (!decide (V.bl (PyData.eqv (.list (rs.map eR)) (.list [])) = V.bl bg)) = false
      rw [hev]
      simp) ?_
    obtain ⟨ga, gxs, hgv, hgs, hgl⟩ := gi5.at_
    subst hgv
    have hgxl := hgl.length
    refine ⟨_, rfl, bk, dx5, _, rfl, f1, ⟨bk, q, 8, held, rfl, rv5, held.length, rfl, by omega, _, rfl, rl, ys, rfl, .inl (SqL.of hrl5), (held.length : Int), (ys.length : Int), rfl, rfl, _, rfl, ga, gxs, rfl, .inr hgs, rfl, _, rfl, ?_⟩⟩
    refine ite_f (by
      show (!decide (V.int ((held.length : Int) + (ys.length : Int)) = V.int (gxs.length : Int))) = false
      have : (held.length : Int) + (ys.length : Int) = (gxs.length : Int) := by omega
      rw [this]
      simp) ?_
    -- the second test
    refine nx_join (fun σ H6 => σ = [some (.ref b), some (.ref ga), some (.ref bk), some (.ref rl), some (.bl bg), none, none, none] ∧ Ke [] H5 H6) (fun D' hD' hk => ?_) (fun σ H6 hj => ?_)
    · refine ⟨_, rfl, bk, dx5, _, rfl, f1, rfl, bk, q, 8, held, rfl, rv5, fun hv hgi => ⟨Nat.zero_le _, fun e6 he6 => ?_⟩⟩
      have k6 : Ke [] H5 (upd H5 e6 (.tup [])) := Ke.new he6
      have he6' : SqT K (upd H5 e6 (.tup [])) e6 [] := SqT.of upd_same
      have hgi6 := hgi.ke k6
      have rv6 := rv5.ke0 k6
      generalize upd H5 e6 (.tup []) = H6 at *
      refine ⟨.tuple (held.map eL), .tuple [], hgi6.at_.dp, .tup he6' .nil, lay_tup (lay_logs hgi6.wf), by simp [PyData.canLay0, PyData.canLayAll0], Nat.le_trans (Nat.min_le_right ..) (by simp [PyData.depth, PyData.depthAll]), _, rfl, ?_⟩
      by_cases hh : held = []
      · subst hh
        refine ite_f (by simp [PyData.eqv, PyData.eqvAll]) ?_
        refine iteF ?_
        exact hk _ _ ⟨rfl, k6⟩
      · refine ite_t (by
          cases held with
          | nil => exact absurd rfl hh
          | cons l r => simp [PyData.eqv, PyData.eqvAll]) ?_
        obtain ⟨dx6, v6, ps6, h1, h2, h3, h4⟩ := rv6.ex
        refine ⟨_, rfl, bk, dx6, _, rfl, h1, rfl, bk, q, 8, held, rfl, rv6, fun hv2 hgi2 => ⟨Nat.zero_le _, fun e7 he7 => ?_⟩⟩
        have k7 : Ke [] H6 (upd H6 e7 (.tup [])) := Ke.new he7
        refine ⟨_, e7, held, [], rfl, (k7.grp Wok.nil hgi2.at_).s, hgi2.nd, hh, hgi2.wf, hgi2.len, SqT.of upd_same, by simp, by simp, by simp, fun b8 H8 k8 hb8 => ⟨b8, rfl, ?_⟩⟩
        rw [hb8.mpr I.ok]
        refine iteF ?_
        exact hk _ _ ⟨rfl, (k6.trans k7).trans k8⟩
    obtain ⟨rfl, k56⟩ := hj
    have hrl6 := k56.same _ _ hrl5
    have hrs6 : Paired (RefV K H6) ys rs := Paired.mapP hrs5 fun _ _ => k56.ref Wok.nil
    have rv6 := rv5.ke0 k56
    -- each refused one
    refine ⟨_, rfl, rl, rfl, ⟨_, SqL.of hrl6⟩, for_it walk_list (fun j σ H7 => (∃ u5 u6, σ = [some (.ref b), some (.ref ga), some (.ref bk), some (.ref rl), some (.bl bg), u5, u6, none]) ∧ Ke [] H6 H7)
      ⟨⟨none, none, rfl⟩, Ke.rfl⟩ (fun j σ H7 _ z => SqL.of (z.2.same _ _ hrl6)) (fun j x σ H7 H8 hj z y => ?_) (fun σ H7 z => ?_)⟩
    · obtain ⟨⟨u5, u6, rfl⟩, k7⟩ := z
      obtain ⟨rfl, e1⟩ := y
      obtain ⟨r, e2, hr⟩ := Paired.get hrs6 j x e1
      have hrm := List.mem_of_getElem? e2
      obtain ⟨a1, a2, a3, a4, a5, a6⟩ := I.ref r hrm
      obtain ⟨wr1, wr2⟩ := wfr r hrm
      obtain ⟨t, u, lv, rfl, s1, s2, s3⟩ := k7.ref Wok.nil hr
      refine ⟨t, _, rfl, s1, rfl, _, _, rfl, _, _, rfl, rfl, ?_⟩
      have rv8 := rv6.ke0 k7
      obtain ⟨dx8, v8, ps8, h1, h2, h3, h4⟩ := rv8.ex
      refine ⟨_, rfl, bk, dx8, _, rfl, h1, rfl, bk, q, 8, held, rfl, rv8, fun hv hgi => ?_⟩
      obtain ⟨ha, hxs8, rfl, hs8, hl8⟩ := hgi.at_
      have hhl := hl8.length
      refine ⟨_, rfl, by rw [sizeLine_eq]; exact Nat.le_of_ble_eq_true rfl, fun t1 ht1 => ?_⟩
      have j1 : Ke [] H8 (upd H8 t1 (.tup [u])) := Ke.new ht1
      refine ⟨ha, t1, hxs8, [u], rfl, rfl, j1.sqt Wok.nil hs8, SqT.of upd_same, by rw [List.length_singleton]; omega, fun p9 H9 j2 hp9 => ?_⟩
      have j12 := j1.trans j2
      refine ⟨p9, _, held ++ [r.1], rfl, .inr hp9, Paired.app (j12.logs Wok.nil hl8) (.cons (j12.log Wok.nil s2) .nil), fun p10 xs10 g10 hp10 hxs10 pm10 _ => ?_⟩
      refine ⟨p10, xs10, rfl, SqL.of upd_same, fun p11 hp11 o ho => ⟨Nat.zero_le _, fun e12 he12 => ?_⟩⟩
      have j3 := (Ke.new (W := []) hp10 (o := .lst xs10)).trans (Ke.new hp11 (o := .frz o (.tup xs10)))
      have j4 := Ke.new (W := []) he12 (o := .tup [])
      have gi10 : GIn K (upd (upd (upd H9 p10 (.lst xs10)) p11 (.frz o (.tup xs10))) e12 (.tup [])) (.ref p11) g10 :=
        hgi.grown wr1 a2 (by omega) ⟨p11, xs10, rfl, j4.sqt Wok.nil frz_sqt, (j3.trans j4).logs Wok.nil hxs10⟩ pm10
      refine ⟨_, e12, g10, [], rfl, gi10.at_.s, gi10.nd, ?_, gi10.wf, gi10.len, SqT.of upd_same, by simp, by simp, by simp, fun b13 H13 j5 hb13 => ⟨b13, rfl, ?_⟩⟩
      · intro z
        rw [z] at pm10
        have := pm10.length_eq
        simp at this
      have hno : ¬ Ok g10 := stk_not a3 fun x hx => pm10.mem_iff.mpr (by simpa using a5 x hx)
      refine ite_f (by
        cases b13 with
        | false => rfl
        | true => exact absurd (hb13.mp rfl) hno) ?_
      have j15 := ((j12.trans j3).trans j4).trans j5
      have s2' := j15.log Wok.nil s2
      have s3' := j15.grp Wok.nil s3
      refine ⟨_, rfl, _, rfl, eL r.1, r.2.map eL, s2'.dp, .inr s3'.dp, lay_eL wr1, lay_logs wr2, by have := depth_eL r.1; omega, false, ?_, ?_⟩
      · show V.bl (!(r.2.map eL).any fun z => PyData.eqv z (eL r.1)) = V.bl false
        rw [any_eL, decide_eq_true a6]
        rfl
      refine iteF ?_
      have hrl2 : r.2.length ≤ 60 := by
        have := len_sub (g := held ++ [r.1]) a4 fun x hx => by simpa using a5 x hx
        rw [List.length_append, List.length_singleton] at this
        omega
      refine ⟨_, rfl, lv, r.2, rfl, ⟨s3', a4, wr2, hrl2⟩, a3, fun H14 j6 => ⟨true, rfl, ?_⟩⟩
      refine iteF ?_
      exact ⟨⟨_, _, rfl⟩, (k7.trans j15).trans j6⟩
    · obtain ⟨⟨u5, u6, rfl⟩, k7⟩ := z
      have k07 : Ke [b] H H7 := (k05.trans k56.any).trans k7.any
      have bx7 : BoxV H7 b (n + 8) := ((bx2.ke k25 (by simp)).ke k56 (by simp)).ke k7 (by simp)
      have hrl7 := k7.same _ _ hrl6
      have hrs7 : Paired (RefV K H7) ys rs := Paired.mapP hrs6 fun _ _ => k7.ref Wok.nil
      have rv7 := rv6.ke0 k7
      refine ⟨_, rfl, Nat.zero_le _, fun e8 he8 => ?_⟩
      have k8 : Ke [] H7 (upd H7 e8 (.lst [])) := Ke.new he8
      have he8' : (upd H7 e8 (.lst [])) e8 = some (.lst []) := upd_same
      generalize upd H7 e8 (.lst []) = H8 at *
      have k08 := k07.trans (k8.any (W := [b]))
      have bx8 := bx7.ke k8 (by simp)
      have hrl8 := k8.same _ _ hrl7
      have hrs8 : Paired (RefV K H8) ys rs := Paired.mapP hrs7 fun _ _ => k8.ref Wok.nil
      have rv8 := rv7.ke0 k8
      refine ⟨.list (rs.map eR), .list [], .lst (SqL.of hrl8) (refs_dp hrs8), .lst (SqL.of he8') .nil, by simp [PyData.canLay0, lay_refs wfr], by simp [PyData.canLay0, PyData.canLayAll0], Nat.le_trans (Nat.min_le_right ..) (by simp [PyData.depth, PyData.depthAll]), _, rfl, ?_⟩
      cases hrs' : rs with
      | nil =>
        refine ite_f (by simp [PyData.eqv, PyData.eqvAll]) ?_
        exact k H8 k08 bx8
      | cons r0 rr =>
        refine ite_t (by simp [PyData.eqv, PyData.eqvAll]) ?_
        subst hrs'
        obtain ⟨a1, a2, a3, a4, a5, a6⟩ := I.ref r0 (by simp)
        obtain ⟨wr1, wr2⟩ := wfr r0 (by simp)
        cases hrs8 with
        | cons hy0 hyr =>
        rename_i y0 yr
        obtain ⟨t0, u0, lv0, rfl, s1, s2, s3⟩ := hy0
        obtain ⟨gb, gys, rfl, s4, s5⟩ := s3
        refine ⟨_, rfl, rl, _, 0, _, rfl, rfl, SqL.of hrl8, atI_nat (j := 0) rfl, t0, _, 0, _, rfl, rfl, s1, atI_nat (j := 0) rfl, ?_⟩
        refine ⟨_, rfl, rl, _, 0, _, rfl, rfl, SqL.of hrl8, atI_nat (j := 0) rfl, t0, _, 1, _, rfl, rfl, s1, atI_nat (j := 1) rfl, gb, rfl, ⟨_, s4⟩, fun D hD => lc_ac walk_tup (AcP (LogV K) r0.2 H8) (AcP.zero hD) (fun i acc H9 _ _ z => z.2.sqt Wok.nil s4) (fun i x acc H9 H10 hi hd hl z y => ?_) (fun acc H9 hd hl z => ?_)⟩
        · obtain ⟨rfl, e1⟩ := y
          obtain ⟨l, e2, hlg⟩ := Paired.get s5 i x e1
          have hB2 : r0.2.length ≤ 60 := by
            have := len_sub (g := held ++ [r0.1]) a4 fun x hx => by simpa using a5 x hx
            rw [List.length_append, List.length_singleton] at this
            omega
          have := s5.length
          refine ⟨rfl, yes_ite ?_⟩
          exact ⟨_, rfl, AcP.more stab_log hD hd hl (by omega) z Ke.rfl e2 (z.2.log Wok.nil hlg)⟩
        · have hac := z.fin (by rw [s5.length]; exact Nat.le_refl _)
          have rv9 := rv8.ke0 z.2
          obtain ⟨dx9, v9, ps9, g1, g2, _, _⟩ := rv8.ex
          have hDbk : D ≠ bk := by rintro rfl; rw [g1] at hD; cases hD
          have hDq : D ≠ q := by rintro rfl; rw [g2] at hD; cases hD
          have bx9 := bx8.ke z.2 (by simp)
          refine ⟨_, rfl, _, rfl, _, rfl, bk, q, 8, held, u0, r0.1, .ref D, r0.2, rfl, rv9, by omega, I.ok, z.2.log Wok.nil s2, wr1, a2, by omega, ⟨D, acc, rfl, .inl (SqL.of hd), .inr (by simp [hDbk, hDq]), hac⟩, a4, a3, a5, fun H' k' => ?_⟩
          refine k H' ((k08.trans (z.2.any (W := [b]))).owns k' (fun c hc => ?_)) (bx9.ke k' (by simp [hbkb.symm, hqb.symm]))
          simp only [List.mem_cons, List.not_mem_nil, or_false] at hc
          rcases hc with rfl | rfl
          · exact hbkH
          · exact hqH
end
end RO

/-! text E15 -/
set_option Elab.async false
set_option linter.all false
set_option maxRecDepth 100000
set_option maxHeartbeats 1000000
namespace RO
open PySem PySem.Spec PyProof.Rows L2
section
variable {P : Program} {w : World} {K : PySem.W.Frag} {mg : Str → Option Value} {base : Heap}
/-! ### the law -/
def spLaw (K : PySem.W.Frag) : Sp := fun vs H Q _ => ∃ (a : Addr) (ns : List Int), vs = [.ref a] ∧ SqL K H a (ns.map V.int) ∧ ∀ H', Q (.bl true) H'
theorem sc_Law : FnScope ["_law_script", "_law_k", "_law_box_here", "_law_turn", "_law_family"] ["_law_script"] (defScope sLaw) := ⟨rfl, rfl, rfl, by decide +kernel, rfl, by decide +kernel, by decide +kernel⟩
theorem ok_law (T : Ty K mg) {f : Addr} {fd : FuncData} (F : FunD K "law" "law" (defArgs sLaw) (defBody sLaw) (defScope sLaw) [] [] f fd) (mx : mg "max" = none) : FnOk P w K mg base C8.CX0 72 f fd ["_law_script"] (spLaw K) := by
  have c0 : C8.Cal P w K mg base 1 "_law_box" (spBox K) [] := ok_box T.toTx
  have c1 : C8.Cal P w K mg base 1 "_law_take" spTake [] := ok_take T.toTx
  have c2 : C8.Cal P w K mg base 3 "_law_cells" (spCells K) [] := ok_cells T.toTx
  have c3 : C8.Cal P w K mg base 3 "_law_loose" (spLoose K) [] := ok_loose T.toTx
  have c4 : C8.Cal P w K mg base 11 "_law_good" (spGood K) [] := ok_good T.toTx
  have c5 : C8.Cal P w K mg base 70 "_law_right" (spRight K) [] := ok_right T
  refine F.ok sc_Law (fun vs H Q E h => ?_) (fun cdv A outer s H vs Q E hr h => ?_)
  · obtain ⟨a, ns, rfl, _⟩ := h
    rfl
  · obtain ⟨a, ns, rfl, hs, k⟩ := h
    refine ⟨_, PSs.nox (pss_cons (ps_for PassesOwn.never rfl (pi_range1 (by rfl) T.b_range (pa_cons (pe_callB (call_max2 rfl) (by rfl) mx boot_max (pa_cons pe_int (pa_cons (pe_callB (call_min2 rfl) (by rfl) T.b_min boot_min (pa_cons pe_int (pa_cons (pe_callB call_len_seq (by rfl) T.b_len PySem.boot_len (pa_cons (pv 0) pa_nil)) pa_nil))) pa_nil))) pa_nil)) (pg_name (i := 1) sc_Law.nd rfl (Or.inl rfl))
        (pss_cons (ps_set sc_Law.nd (i := 2) rfl (Or.inl rfl) (C8.pe_c c0 hr (by omega) (by rfl) (pa_cons (pv 0) (pa_cons (pv 1) pa_nil))))
        (pss_one (ps_for PassesOwn.never rfl (pi_range1 (by rfl) T.b_range (pa_cons pe_int pa_nil)) (pg_name (i := 3) sc_Law.nd rfl (Or.inl rfl))
          (pss_cons (ps_if (pt_not (pt_val (C8.pe_c c5 hr (by omega) (by rfl) (pa_cons (pv 2) (pa_cons (C8.pe_c c4 hr (by omega) (by rfl) (pa_cons (pv 2) pa_nil)) pa_nil))))) (pss_one (ps_ret pe_nv)) pss_nil)
          (pss_cons (ps_set sc_Law.nd (i := 4) rfl (Or.inl rfl) (C8.pe_c c3 hr (by omega) (by rfl) (pa_cons (pv 2) (pa_cons (C8.pe_c c2 hr (by omega) (by rfl) (pa_cons (pv 2) (pa_cons (pe_op op_add pe_int (C8.pe_c c1 hr (by omega) (by rfl) (pa_cons (pv 2) (pa_cons pe_int pa_nil)))) pa_nil))) (pa_cons pe_int pa_nil)))))
          (pss_one (ps_if (PW.pt (pw_and (pt_cmpR (op_neM hr) (pv 4) (pe_tup pa_nil) (nomark _)) (pw_and1 (pt_not (pt_val (C8.pe_c c5 hr (by omega) (by rfl) (pa_cons (pv 2) (pa_cons (pv 4) pa_nil)))))))) (pss_one (ps_ret pe_nv)) pss_nil))))))))
      (pss_one (ps_ret pe_bl))), ?_⟩
    refine ⟨_, rfl, a, _, rfl, .inl hs, 2, _, rfl, 1, _, rfl, ?_⟩
    obtain ⟨m, hm, hm2⟩ : ∃ m : Nat, (if (if ((ns.map V.int).length : Int) < 2 then ((ns.map V.int).length : Int) else 2) > 1 then (if ((ns.map V.int).length : Int) < 2 then ((ns.map V.int).length : Int) else 2) else 1) = (m : Int) ∧ m ≤ 2 := by
      by_cases h1 : ((ns.map V.int).length : Int) < 2
      · rw [if_pos h1]
        split
        · exact ⟨(ns.map V.int).length, rfl, by omega⟩
        · exact ⟨1, rfl, by omega⟩
      · rw [if_neg h1]
        exact ⟨2, rfl, by omega⟩
    refine ⟨(m : Int), by rw [← hm], by omega, by omega, for_it walk_range (fun i σ H1 => (∃ u1 u2 u3 u4, σ = [some (.ref a), u1, u2, u3, u4]) ∧ Ke [] H H1) ⟨⟨none, none, none, none, rfl⟩, Ke.rfl⟩ (fun _ _ _ _ _ => trivial) (fun i x σ H1 H2 hi z y => ?_) (fun σ H1 z => ?_)⟩
    · obtain ⟨⟨u1, u2, u3, u4, rfl⟩, k1⟩ := z
      obtain ⟨rfl, rfl⟩ := y
      have hi2 : i < 2 := by
        have : (m : Int).toNat = m := Int.toNat_natCast m
        omega
      refine ⟨_, rfl, _, rfl, a, ns, i, congrArg (fun z => [V.ref a, V.int z]) (Int.zero_add (i : Int)), k1.sql hs, hi2, fun b H3 hb0 k3 bx3 => ?_⟩
      have hbH : H b = none := k1.same.free hb0
      refine ⟨3, rfl, by decide, by decide, for_it walk_range (fun j σ H4 => (∃ u3 u4, σ = [some (.ref a), some (.int (0 + (i : Int))), some (.ref b), u3, u4]) ∧ Ke [b] H3 H4 ∧ BoxV H4 b (10000 * j)) ⟨⟨_, _, rfl⟩, Ke.rfl, bx3⟩ (fun _ _ _ _ _ => trivial) (fun j x σ H4 H5 hj z y => ?_) (fun σ H4 z => ?_)⟩
      · obtain ⟨⟨u3, u4, rfl⟩, k4, bx4⟩ := z
        obtain ⟨rfl, rfl⟩ := y
        have hj3 : j < 3 := hj
        refine ⟨_, rfl, _, rfl, b, _, rfl, bx4, by omega, fun v H6 g k6 bx6 gi g8 gne => ?_⟩
        refine ⟨b, v, _, g, rfl, bx6, by omega, gi, gne, g8, fun H7 k7 bx7 => ⟨true, rfl, ?_⟩⟩
        refine iteF ?_
        have k47 := (k4.trans k6).trans k7
        refine ⟨_, rfl, _, rfl, _, rfl, b, 4, _, rfl, bx7, by omega, by decide, by decide, fun r H8 g1 g2 k8 bx8 => ⟨1, r, rfl, rfl, ?_⟩⟩
        obtain ⟨r0, rfl⟩ := Int.eq_ofNat_of_zero_le g1
        refine ⟨b, 1 + r0, _, rfl, bx8, by omega, by omega, fun p H9 cs hp0 k9 bx9 hp9 csl cnd cok => ?_⟩
        refine ⟨b, p, cs, 7, _, rfl, bx9, by omega, not_box (H' := H8) bx8 hp0, hp9, cnd, cok, by omega, by decide, fun v2 H10 g2' k10 bx10 gi2 gl2 => ?_⟩
        have k410 := ((k47.trans k8).trans k9).trans k10
        refine ⟨_, rfl, Nat.zero_le _, fun e he => ?_⟩
        have k11 : Ke [] H10 (upd H10 e (.tup [])) := Ke.new he
        have he11 : SqT K (upd H10 e (.tup [])) e [] := SqT.of upd_same
        have bx11 := bx10.own (o := .tup []) he
        have gi11 := gi2.ke k11
        have k411 := k410.trans (k11.any (W := [b]))
        generalize upd H10 e (.tup []) = H11 at *
        refine ⟨.tuple (g2'.map eL), .tuple [], gi11.at_.dp, .tup he11 .nil, lay_tup (lay_logs gi11.wf), by simp [PyData.canLay0, PyData.canLayAll0], Nat.le_trans (Nat.min_le_right ..) (by simp [PyData.depth, PyData.depthAll]), _, rfl, ?_⟩
        by_cases hg : g2' = []
        · subst hg
          refine ite_f (by simp [PyData.eqv, PyData.eqvAll]) ?_
          refine iteF ?_
          exact ⟨⟨_, _, rfl⟩, k411, bx11.mono (by omega)⟩
        · refine ite_t (by
            cases g2' with
            | nil => exact absurd rfl hg
            | cons l r => simp [PyData.eqv, PyData.eqvAll]) ?_
          refine ⟨_, rfl, _, rfl, b, v2, _, g2', rfl, bx11, by omega, gi11, hg, by omega, fun H12 k12 bx12 => ⟨true, rfl, ?_⟩⟩
          refine iteF ?_
          exact ⟨⟨_, _, rfl⟩, k411.trans k12, bx12.mono (by omega)⟩
      · obtain ⟨⟨u3, u4, rfl⟩, k4, bx4⟩ := z
        exact ⟨⟨_, _, _, _, rfl⟩, (k1.trans k3).owns k4 (fun c hc => by rw [List.mem_singleton.mp hc]; exact hbH)⟩
    · obtain ⟨⟨u1, u2, u3, u4, rfl⟩, k1⟩ := z
      exact k H1
end
end RO

/-! text H1 -/
set_option Elab.async false
set_option linter.all false
set_option maxRecDepth 100000
set_option maxHeartbeats 0
namespace RO
open PySem PySem.Spec PyProof.Rows L2
/-! ### what the run of the head tells -/
def oexB (K : PySem.W.Frag) (C : Addr) : Bool := (match K.lookup C with
  | some ⟨.type "type", _, .cls cd, sl⟩ => (match cd.mro, sl.toList with
    | .ref C' :: bm, [_, _, _, _, some (.builtin n), _] => decide (C' = C) && (decide (n = "ValueError.__new__") && (!cd.hasDel && (cd.hasDict && PySem.HandSPX.refsVE bm)))
    | _, _ => false)
  | _ => false)
theorem oexB_ok {K : PySem.W.Frag} {C : Addr} (q : oexB K C = true) : ∃ nm q N bs bm sn sub ab col dd k0 k1 k2 k3 k5, K.lookup C = some (excClassObj nm q C N bs bm true sn sub ab col dd k0 k1 k2 k3 k5 "ValueError.__new__") ∧ PySem.HandSPX.refsVE bm = true := by
  unfold oexB at q
  split at q
  · rename_i dd cd sl ho
    split at q
    · rename_i C' bm k0 k1 k2 k3 n k5 hm hs
      obtain ⟨h1, q⟩ := He.ba q
      obtain ⟨h2, q⟩ := He.ba q
      obtain ⟨h3, q⟩ := He.ba q
      obtain ⟨h4, h5⟩ := He.ba q
      have h1 := of_decide_eq_true h1
      have h2 := of_decide_eq_true h2
      subst h1 h2
      obtain ⟨nm, bs, mro, ns, qn, hd, sn, sub, ab, col, del⟩ := cd
      dsimp only at hm h3 h4
      subst hm h4
      have h3 : del = false := by simpa using h3
      subst h3
      have hsl : sl = #[k0, k1, k2, k3, some (.builtin "ValueError.__new__"), k5] := by
        obtain ⟨l⟩ := sl
        simp only at hs
        rw [hs]
      subst hsl
      exact ⟨nm, qn, ns, bs, bm, sn, sub, ab, col, dd, k0, k1, k2, k3, k5, ho, h5⟩
    · cases q
  · cases q
def bcB (K : PySem.W.Frag) (R : Addr) : Bool := He.eqO (PySem.W.specialIn K (.ref R) "__getattribute__") (some (some (.builtin "type.__getattribute__"))) && (PySem.W.readsIn K R (.type "type") && (match PySem.W.findCls K (.ref R) (.type "type") "__init__" with
  | some (.val (.builtin n)) => decide (n = "ValueError.__init__")
  | _ => false))
theorem bcB_ok {K : PySem.W.Frag} {R : Addr} (q : bcB K R = true) : BaseC K R (.type "type") := by
  obtain ⟨h1, q⟩ := He.ba q
  obtain ⟨h2, q⟩ := He.ba q
  refine ⟨He.eqO_ok h1, h2, ?_⟩
  split at q
  · rename_i n e
    rw [of_decide_eq_true q] at e
    exact e
  · cases q
def dfB (K : PySem.W.Frag) (a : Addr) : Bool := match K.lookup a with
  | some ⟨.type c, _, .seq its _, _⟩ => decide (c = "tuple") && its.isEmpty
  | _ => false
theorem dfB_ok {K : PySem.W.Frag} {a : Addr} (q : dfB K a = true) (H : Hp) : SqT K H a [] := by
  unfold dfB at q
  split at q
  · rename_i c od its n sl e
    obtain ⟨h1, h2⟩ := He.ba q
    have h3 := of_decide_eq_true h1
    subst h3
    have h4 : its = #[] := Array.isEmpty_iff.mp h2
    subst h4
    exact .inr ⟨_, #[], n, e, rfl, rfl, Nat.zero_le _, .nil⟩
  · cases q
def exB (K : PySem.W.Frag) : Bool := oexB K (aStuck K) && (He.eqO (PySem.W.findIn K (.ref (aStuck K)) "__setattr__") (some (some (.builtin "object.__setattr__"))) && (decide (PySem.W.subIn K (.ref (aStuck K)) (.type "BaseException") = some true) &&
  (decide (PySem.W.typeIn K (.ref (aStuck K)) = some (.type "type")) && (xfB K (aStuck K) && (bcB K (He.ga K "ReadError") && dfB K (aDfl K))))))
def df0 : He.DefD := ⟨("is_cell", none), "is_cell", "is_cell", defArgs sIsCell, defBody sIsCell, defScope sIsCell, [], []⟩
def df1 : He.DefD := ⟨("is_value", none), "is_value", "is_value", defArgs sIsValue, defBody sIsValue, defScope sIsValue, [], []⟩
def df2 : He.DefD := ⟨("is_pair", none), "is_pair", "is_pair", defArgs sIsPair, defBody sIsPair, defScope sIsPair, [], []⟩
def df3 : He.DefD := ⟨("has_log_form", none), "has_log_form", "has_log_form", defArgs sHasLogForm, defBody sHasLogForm, defScope sHasLogForm, [], []⟩
def df4 : He.DefD := ⟨("is_log", none), "is_log", "is_log", defArgs sIsLog, defBody sIsLog, defScope sIsLog, [], []⟩
def df5 : He.DefD := ⟨("have_logs_form", none), "have_logs_form", "have_logs_form", defArgs sHaveLogsForm, defBody sHaveLogsForm, defScope sHaveLogsForm, [], []⟩
def df6 : He.DefD := ⟨("is_logs", none), "is_logs", "is_logs", defArgs sIsLogs, defBody sIsLogs, defScope sIsLogs, [], []⟩
def df7 : He.DefD := ⟨("shared_cells", none), "shared_cells", "shared_cells", defArgs sSharedCells, defBody sSharedCells, defScope sSharedCells, [], []⟩
def df8 : He.DefD := ⟨("parts_by", none), "parts_by", "parts_by", defArgs sPartsBy, defBody sPartsBy, defScope sPartsBy, [], []⟩
def df9 : He.DefD := ⟨("splitting_cells", none), "splitting_cells", "splitting_cells", defArgs sSplittingCells, defBody sSplittingCells, defScope sSplittingCells, [], []⟩
def df10 : He.DefD := ⟨("blocks", none), "blocks", "blocks", defArgs sBlocks, defBody sBlocks, defScope sBlocks, [], []⟩
def df11 : He.DefD := ⟨("stuck_block", none), "stuck_block", "stuck_block", defArgs sStuckBlock, defBody sStuckBlock, defScope sStuckBlock, [], []⟩
def df12 : He.DefD := ⟨("without", none), "without", "without", defArgs sWithout, defBody sWithout, defScope sWithout, [], []⟩
def df13 : He.DefD := ⟨("single_group", none), "single_group", "single_group", defArgs sSingleGroup, defBody sSingleGroup, defScope sSingleGroup, [], []⟩
def df14 : He.DefD := ⟨("check_reader", none), "check_reader", "check_reader", defArgs sCheckReader, defBody sCheckReader, defScope sCheckReader, [], []⟩
def df15 : He.DefD := ⟨("with_log", none), "with_log", "with_log", defArgs sWithLog, defBody sWithLog, defScope sWithLog, [], []⟩
def df16 : He.DefD := ⟨("against", none), "against", "against", defArgs sAgainst, defBody sAgainst, defScope sAgainst, [], []⟩
def df17 : He.DefD := ⟨("grown", none), "grown", "grown", defArgs sGrown, defBody sGrown, defScope sGrown, [], []⟩
def df18 : He.DefD := ⟨("_law_box", none), "_law_box", "_law_box", defArgs sLawBox, defBody sLawBox, defScope sLawBox, [], []⟩
def df19 : He.DefD := ⟨("_law_take", none), "_law_take", "_law_take", defArgs sLawTake, defBody sLawTake, defScope sLawTake, [], []⟩
def df20 : He.DefD := ⟨("_law_of", none), "_law_of", "_law_of", defArgs sLawOf, defBody sLawOf, defScope sLawOf, [], []⟩
def df21 : He.DefD := ⟨("_law_cells", none), "_law_cells", "_law_cells", defArgs sLawCells, defBody sLawCells, defScope sLawCells, [], []⟩
def df22 : He.DefD := ⟨("_law_values", none), "_law_values", "_law_values", defArgs sLawValues, defBody sLawValues, defScope sLawValues, [], []⟩
def df23 : He.DefD := ⟨("_law_tree", none), "_law_tree", "_law_tree", defArgs sLawTree, defBody sLawTree, defScope sLawTree, [], []⟩
def df24 : He.DefD := ⟨("_law_leaves", none), "_law_leaves", "_law_leaves", defArgs sLawLeaves, defBody sLawLeaves, defScope sLawLeaves, [], []⟩
def df25 : He.DefD := ⟨("_law_loose", none), "_law_loose", "_law_loose", defArgs sLawLoose, defBody sLawLoose, defScope sLawLoose, [], []⟩
def df26 : He.DefD := ⟨("_law_shared", none), "_law_shared", "_law_shared", defArgs sLawShared, defBody sLawShared, defScope sLawShared, [], []⟩
def df27 : He.DefD := ⟨("_law_parts", none), "_law_parts", "_law_parts", defArgs sLawParts, defBody sLawParts, defScope sLawParts, [], []⟩
def df28 : He.DefD := ⟨("_law_fits", none), "_law_fits", "_law_fits", defArgs sLawFits, defBody sLawFits, defScope sLawFits, [], []⟩
def df29 : He.DefD := ⟨("_law_is_stuck", none), "_law_is_stuck", "_law_is_stuck", defArgs sLawIsStuck, defBody sLawIsStuck, defScope sLawIsStuck, [], []⟩
def df30 : He.DefD := ⟨("_law_product", none), "_law_product", "_law_product", defArgs sLawProduct, defBody sLawProduct, defScope sLawProduct, [], []⟩
def df31 : He.DefD := ⟨("_law_good", none), "_law_good", "_law_good", defArgs sLawGood, defBody sLawGood, defScope sLawGood, [], []⟩
def df32 : He.DefD := ⟨("_law_mixed", none), "_law_mixed", "_law_mixed", defArgs sLawMixed, defBody sLawMixed, defScope sLawMixed, [], []⟩
def df33 : He.DefD := ⟨("_law_filled", none), "_law_filled", "_law_filled", defArgs sLawFilled, defBody sLawFilled, defScope sLawFilled, [], []⟩
def df34 : He.DefD := ⟨("_law_let_in", none), "_law_let_in", "_law_let_in", defArgs sLawLetIn, defBody sLawLetIn, defScope sLawLetIn, [], []⟩
def df35 : He.DefD := ⟨("_law_right", none), "_law_right", "_law_right", defArgs sLawRight, defBody sLawRight, defScope sLawRight, [], []⟩
def df36 : He.DefD := ⟨("law", none), "law", "law", defArgs sLaw, defBody sLaw, defScope sLaw, [], []⟩
def df37 : He.DefD := ⟨("Stuck", some "__init__"), "__init__", "Stuck.__init__", defArgs sStuckInit, defBody sStuckInit, defScope sStuckInit, [], []⟩
def df38 : He.DefD := ⟨("Recorder", some "__init__"), "__init__", "Recorder.__init__", defArgs sRecInit, defBody sRecInit, defScope sRecInit, [.adr aDfl], []⟩
def df39 : He.DefD := ⟨("Recorder", some "__len__"), "__len__", "Recorder.__len__", defArgs sRecLen, defBody sRecLen, defScope sRecLen, [], []⟩
def df40 : He.DefD := ⟨("Recorder", some "act"), "act", "Recorder.act", defArgs sRecAct, defBody sRecAct, defScope sRecAct, [], []⟩
def df41 : He.DefD := ⟨("Recorder", some "add"), "add", "Recorder.add", defArgs sRecAdd, defBody sRecAdd, defScope sRecAdd, [], []⟩
def df42 : He.DefD := ⟨("Recorder", some "drop"), "drop", "Recorder.drop", defArgs sRecDrop, defBody sRecDrop, defScope sRecDrop, [], []⟩
def df43 : He.DefD := ⟨("Recorder", some "logs"), "logs", "Recorder.logs", defArgs sRecLogs, defBody sRecLogs, defScope sRecLogs, [], []⟩
def fnl : List He.DefD := [df0, df1, df2, df3, df4, df5, df6, df7, df8, df9, df10, df11, df12, df13, df14, df15, df16, df17, df18, df19, df20, df21, df22, df23, df24, df25, df26, df27, df28, df29, df30, df31, df32, df33, df34, df35, df36, df37, df38, df39, df40, df41, df42, df43]
def fal : List He.Fa := [.glo "is_cell", .glo "is_value", .glo "is_pair", .glo "has_log_form", .glo "is_log", .glo "have_logs_form", .glo "is_logs", .glo "shared_cells", .glo "parts_by", .glo "splitting_cells", .glo "blocks", .glo "stuck_block", .glo "without", .glo "single_group", .glo "check_reader", .glo "with_log", .glo "against", .glo "grown", .glo "_law_box", .glo "_law_take", .glo "_law_of", .glo "_law_cells", .glo "_law_values", .glo "_law_tree", .glo "_law_leaves", .glo "_law_loose", .glo "_law_shared", .glo "_law_parts", .glo "_law_fits", .glo "_law_is_stuck", .glo "_law_product", .glo "_law_good", .glo "_law_mixed", .glo "_law_filled", .glo "_law_let_in", .glo "_law_right", .glo "Stuck", .glo "ReadError", .glo "Recorder", .glo "law", .free "len", .free "isinstance", .free "all", .free "zip", .free "dict", .free "tuple", .free "sorted", .free "set", .free "range", .free "min", .free "max", .free "abs", .free "int", .free "list", .free "str", .free "bool", .int "MOST_LOGS" 300, .int "MOST_CELLS" 60, .int "MOST_LETTERS" 8, .int "MOST_VALUE" 1000000000, .int "PAIR" 2, .str "LETTERS" "abcdefghijklmnopqrstuvwxyz", .cls "Recorder", .noat "Recorder" "held", .noat "Recorder" "past", .meth "Recorder" "act", .meth "Recorder" "add", .meth "Recorder" "drop", .meth "Recorder" "logs", .meth "Recorder" "__len__", .mkr "Recorder", .meth "Stuck" "__init__", .noat "Stuck" "group", .exm "Stuck" "Stuck" true, .keep "Stuck"]
/-- what the names reach in 5 steps, and the interpreter's own statics -/
def asR (g : Addr → Option Obj) : List Addr := He.asD g 5 ++ [cStatics]
abbrev AlR : Type := He.AlD × Bool
def obsR (g : Addr → Option Obj) : AlR := (He.obsD fal fnl (He.frG g (asR g)), exB (He.frG g (asR g)))
def valR : AlR := (He.valD fnl, true)
def hkR : PySem.W.Hook where
  α := AlR
  obs := fun s => obsR s.heap.get?
  val := fun _ => valR
  says := fun _ h => ∃ K : PySem.W.Frag, K.In h ∧ He.SaysD fal fnl K ∧ exB K = true
  of := fun _ _ e => ⟨_, He.frG_in, congrArg (fun z : AlR => z.1) e, congrArg (fun z : AlR => z.2) e⟩
  keeps := fun _ _ _ ⟨K, hK, c⟩ k => ⟨K, PySem.W.Frag.In.keeps hK k, c⟩
abbrev RR : PySem.W.OpenRow := PySem.W.OpenLaw.row PySem.Challenge.rw_readorder_k89_whole_any_order_of_adding
def obRR (s : PySem.W.SharedT) : AlR := obsR (HandSHeadRun.getT s)
theorem obRR_eq (s : PySem.W.SharedT) : obRR s = hkR.obs s.abs := by
  have e : HandSHeadRun.getT s = s.abs.heap.get? := funext (HandSHeadRun.getT_eq s)
  show obsR (HandSHeadRun.getT s) = obsR s.abs.heap.get?
  rw [e]
def names1 : List PySem.Str := ["_wall", "ReadError", "NoLogs", "Stuck", "NotALog", "BadLog", "BadLogs", "Full", "MOST_LOGS", "MOST_CELLS", "MOST_LETTERS", "MOST_VALUE", "LETTERS", "PAIR", "is_cell", "is_value", "is_pair", "has_log_form", "is_log", "have_logs_form", "is_logs", "shared_cells", "unread_shared", "parts_by", "splitting_cells"]
def names2 : List PySem.Str := ["blocks", "stuck_block", "without", "single_group", "check_reader", "check_logs", "preferred", "built", "reader_for", "with_log", "against", "grown", "Recorder", "_law_box", "_law_take", "_law_of", "_law_cells", "_law_values", "_law_tree", "_law_leaves", "_law_loose", "_law_shared", "_law_parts", "_law_fits", "_law_is_stuck", "_law_product", "_law_good", "_law_mixed", "_law_filled", "_law_let_in", "_law_right"]
def names : List PySem.Str := names1 ++ names2
theorem run (w : World) : HandSHeadRun.RunEq RR (PySem.W.view RR.prog [62]) hkR obRR 4000 names w := by
  intro os
  kernel_rfl
end RO

/-! text H2 -/
set_option Elab.async false
set_option linter.all false
set_option maxRecDepth 100000
set_option maxHeartbeats 2000000
namespace RO
open PySem PySem.Spec PyProof.Rows L2
theorem tell {K : PySem.W.Frag} {h : Heap} {mg : Str → Option Value} (X : K.In h) (G : h.Ns mainGlobals mg) (c : He.SaysD fal fnl K) (e : exB K = true) : Ty K mg := by
  obtain ⟨e1, e⟩ := He.ba e
  obtain ⟨e2, e⟩ := He.ba e
  obtain ⟨e3, e⟩ := He.ba e
  obtain ⟨e4, e⟩ := He.ba e
  obtain ⟨e5, e⟩ := He.ba e
  obtain ⟨e6, e7⟩ := He.ba e
  have ml := He.meth_ok (c.fact 69 (f := .meth "Recorder" "__len__") rfl)
  have mi := He.meth_ok (c.fact 71 (f := .meth "Stuck" "__init__") rfl)
  exact {
    b_len := He.free_ok X G (c.fact 40 (f := .free "len") rfl)
    b_isinstance := He.free_ok X G (c.fact 41 (f := .free "isinstance") rfl)
    b_all := He.free_ok X G (c.fact 42 (f := .free "all") rfl)
    b_zip := He.free_ok X G (c.fact 43 (f := .free "zip") rfl)
    b_dict := He.free_ok X G (c.fact 44 (f := .free "dict") rfl)
    b_tuple := He.free_ok X G (c.fact 45 (f := .free "tuple") rfl)
    b_sorted := He.free_ok X G (c.fact 46 (f := .free "sorted") rfl)
    b_set := He.free_ok X G (c.fact 47 (f := .free "set") rfl)
    b_range := He.free_ok X G (c.fact 48 (f := .free "range") rfl)
    b_min := He.free_ok X G (c.fact 49 (f := .free "min") rfl)
    b_max := He.free_ok X G (c.fact 50 (f := .free "max") rfl)
    b_abs := He.free_ok X G (c.fact 51 (f := .free "abs") rfl)
    b_int := He.free_ok X G (c.fact 52 (f := .free "int") rfl)
    b_list := He.free_ok X G (c.fact 53 (f := .free "list") rfl)
    b_str := He.free_ok X G (c.fact 54 (f := .free "str") rfl)
    b_bool := He.free_ok X G (c.fact 55 (f := .free "bool") rfl)
    c_MOST_LOGS := He.int_ok X G (c.fact 56 (f := .int "MOST_LOGS" 300) rfl)
    c_MOST_CELLS := He.int_ok X G (c.fact 57 (f := .int "MOST_CELLS" 60) rfl)
    c_MOST_LETTERS := He.int_ok X G (c.fact 58 (f := .int "MOST_LETTERS" 8) rfl)
    c_MOST_VALUE := He.int_ok X G (c.fact 59 (f := .int "MOST_VALUE" 1000000000) rfl)
    c_PAIR := He.int_ok X G (c.fact 60 (f := .int "PAIR" 2) rfl)
    c_LETTERS := He.str_ok X G (c.fact 61 (f := .str "LETTERS" "abcdefghijklmnopqrstuvwxyz") rfl)
    d_is_cell := c.def_ 0 (d := df0) rfl
    g_is_cell := He.glo_ok X G (c.fact 0 (f := .glo "is_cell") rfl)
    d_is_value := c.def_ 1 (d := df1) rfl
    g_is_value := He.glo_ok X G (c.fact 1 (f := .glo "is_value") rfl)
    d_is_pair := c.def_ 2 (d := df2) rfl
    g_is_pair := He.glo_ok X G (c.fact 2 (f := .glo "is_pair") rfl)
    d_has_log_form := c.def_ 3 (d := df3) rfl
    g_has_log_form := He.glo_ok X G (c.fact 3 (f := .glo "has_log_form") rfl)
    d_is_log := c.def_ 4 (d := df4) rfl
    g_is_log := He.glo_ok X G (c.fact 4 (f := .glo "is_log") rfl)
    d_have_logs_form := c.def_ 5 (d := df5) rfl
    g_have_logs_form := He.glo_ok X G (c.fact 5 (f := .glo "have_logs_form") rfl)
    d_is_logs := c.def_ 6 (d := df6) rfl
    g_is_logs := He.glo_ok X G (c.fact 6 (f := .glo "is_logs") rfl)
    d_shared_cells := c.def_ 7 (d := df7) rfl
    g_shared_cells := He.glo_ok X G (c.fact 7 (f := .glo "shared_cells") rfl)
    d_parts_by := c.def_ 8 (d := df8) rfl
    g_parts_by := He.glo_ok X G (c.fact 8 (f := .glo "parts_by") rfl)
    d_splitting_cells := c.def_ 9 (d := df9) rfl
    g_splitting_cells := He.glo_ok X G (c.fact 9 (f := .glo "splitting_cells") rfl)
    d_blocks := c.def_ 10 (d := df10) rfl
    g_blocks := He.glo_ok X G (c.fact 10 (f := .glo "blocks") rfl)
    d_stuck_block := c.def_ 11 (d := df11) rfl
    g_stuck_block := He.glo_ok X G (c.fact 11 (f := .glo "stuck_block") rfl)
    d_without := c.def_ 12 (d := df12) rfl
    g_without := He.glo_ok X G (c.fact 12 (f := .glo "without") rfl)
    d_single_group := c.def_ 13 (d := df13) rfl
    g_single_group := He.glo_ok X G (c.fact 13 (f := .glo "single_group") rfl)
    d_check_reader := c.def_ 14 (d := df14) rfl
    g_check_reader := He.glo_ok X G (c.fact 14 (f := .glo "check_reader") rfl)
    d_with_log := c.def_ 15 (d := df15) rfl
    g_with_log := He.glo_ok X G (c.fact 15 (f := .glo "with_log") rfl)
    d_against := c.def_ 16 (d := df16) rfl
    g_against := He.glo_ok X G (c.fact 16 (f := .glo "against") rfl)
    d_grown := c.def_ 17 (d := df17) rfl
    g_grown := He.glo_ok X G (c.fact 17 (f := .glo "grown") rfl)
    d__law_box := c.def_ 18 (d := df18) rfl
    g__law_box := He.glo_ok X G (c.fact 18 (f := .glo "_law_box") rfl)
    d__law_take := c.def_ 19 (d := df19) rfl
    g__law_take := He.glo_ok X G (c.fact 19 (f := .glo "_law_take") rfl)
    d__law_of := c.def_ 20 (d := df20) rfl
    g__law_of := He.glo_ok X G (c.fact 20 (f := .glo "_law_of") rfl)
    d__law_cells := c.def_ 21 (d := df21) rfl
    g__law_cells := He.glo_ok X G (c.fact 21 (f := .glo "_law_cells") rfl)
    d__law_values := c.def_ 22 (d := df22) rfl
    g__law_values := He.glo_ok X G (c.fact 22 (f := .glo "_law_values") rfl)
    d__law_tree := c.def_ 23 (d := df23) rfl
    g__law_tree := He.glo_ok X G (c.fact 23 (f := .glo "_law_tree") rfl)
    d__law_leaves := c.def_ 24 (d := df24) rfl
    g__law_leaves := He.glo_ok X G (c.fact 24 (f := .glo "_law_leaves") rfl)
    d__law_loose := c.def_ 25 (d := df25) rfl
    g__law_loose := He.glo_ok X G (c.fact 25 (f := .glo "_law_loose") rfl)
    d__law_shared := c.def_ 26 (d := df26) rfl
    g__law_shared := He.glo_ok X G (c.fact 26 (f := .glo "_law_shared") rfl)
    d__law_parts := c.def_ 27 (d := df27) rfl
    g__law_parts := He.glo_ok X G (c.fact 27 (f := .glo "_law_parts") rfl)
    d__law_fits := c.def_ 28 (d := df28) rfl
    g__law_fits := He.glo_ok X G (c.fact 28 (f := .glo "_law_fits") rfl)
    d__law_is_stuck := c.def_ 29 (d := df29) rfl
    g__law_is_stuck := He.glo_ok X G (c.fact 29 (f := .glo "_law_is_stuck") rfl)
    d__law_product := c.def_ 30 (d := df30) rfl
    g__law_product := He.glo_ok X G (c.fact 30 (f := .glo "_law_product") rfl)
    d__law_good := c.def_ 31 (d := df31) rfl
    g__law_good := He.glo_ok X G (c.fact 31 (f := .glo "_law_good") rfl)
    d__law_mixed := c.def_ 32 (d := df32) rfl
    g__law_mixed := He.glo_ok X G (c.fact 32 (f := .glo "_law_mixed") rfl)
    d__law_filled := c.def_ 33 (d := df33) rfl
    g__law_filled := He.glo_ok X G (c.fact 33 (f := .glo "_law_filled") rfl)
    d__law_let_in := c.def_ 34 (d := df34) rfl
    g__law_let_in := He.glo_ok X G (c.fact 34 (f := .glo "_law_let_in") rfl)
    d__law_right := c.def_ 35 (d := df35) rfl
    g__law_right := He.glo_ok X G (c.fact 35 (f := .glo "_law_right") rfl)
    g_Stuck := He.glo_ok X G (c.fact 36 (f := .glo "Stuck") rfl)
    g_ReadError := He.glo_ok X G (c.fact 37 (f := .glo "ReadError") rfl)
    g_Recorder := He.glo_ok X G (c.fact 38 (f := .glo "Recorder") rfl)
    s_init := c.def_ 37 (d := df37) rfl
    s_iC := mi.at_
    s_tI := beq_iff_eq.mp mi.fn
    s_ox := ⟨oexB_ok e1, He.eqO_ok e2, of_decide_eq_true e3, of_decide_eq_true e4, He.keep_ok (c.fact 74 (f := .keep "Stuck") rfl)⟩
    s_ng := He.eqO_ok (c.fact 72 (f := .noat "Stuck" "group") rfl)
    s_xf := xfB_ok e5
    s_em := He.exm_ok (c.fact 73 (f := .exm "Stuck" "Stuck" true) rfl)
    e_bc := ⟨_, bcB_ok e6⟩
    r_mk := He.mkr_ok (c.fact 70 (f := .mkr "Recorder") rfl)
    r_cls := He.cls_ok (c.fact 62 (f := .cls "Recorder") rfl)
    r_held := He.eqO_ok (c.fact 63 (f := .noat "Recorder" "held") rfl)
    r_past := He.eqO_ok (c.fact 64 (f := .noat "Recorder" "past") rfl)
    r_act := He.meth_ok (c.fact 65 (f := .meth "Recorder" "act") rfl)
    r_add := He.meth_ok (c.fact 66 (f := .meth "Recorder" "add") rfl)
    r_drop := He.meth_ok (c.fact 67 (f := .meth "Recorder" "drop") rfl)
    r_logs := He.meth_ok (c.fact 68 (f := .meth "Recorder" "logs") rfl)
    r_lenF := ml.at_
    r_lenT := beq_iff_eq.mp ml.fn
    m_init := c.def_ 38 (d := df38) rfl
    m_len := c.def_ 39 (d := df39) rfl
    m_act := c.def_ 40 (d := df40) rfl
    m_add := c.def_ 41 (d := df41) rfl
    m_drop := c.def_ 42 (d := df42) rfl
    m_logs := c.def_ 43 (d := df43) rfl
    r_dfl := fun H => dfB_ok e7 H }
theorem facts {P : Program} {w : World} {K : PySem.W.Frag} {h : Heap} {mg : Str → Option Value} {f : Addr} (X : K.In h) (G : h.Ns mainGlobals mg) (hfa : mg ("law" : Str) = some (.ref f)) (c : He.SaysD fal fnl K) (e : exB K = true) :
    ∃ fd : FuncData, (∀ (s : Shared) (v : Value), BindsTo s fd ⟨[v], []⟩ [("_law_script", v)]) ∧ ∀ base : Heap, K.In base → base.Ns mainGlobals mg → FnOk P w K mg base C8.CX0 72 f fd ["_law_script"] (spLaw K) := by
  obtain ⟨fd, F⟩ := c.def_ 36 (d := df36) rfl
  have e0 := hfa.symm.trans (He.glo_ok X G (c.fact 39 (f := .glo "law") rfl))
  cases e0
  have b := FunD.bindsA (ps := ["_law_script"]) F fun _ _ _ _ _ _ us hl => match us, hl with | [_], _ => rfl
  have T := tell X G c e
  exact ⟨fd, fun s v => b s [v] rfl, fun base _ _ => ok_law T F T.b_max⟩
end RO

/-! text Z -/
set_option Elab.async false
set_option linter.all false
set_option maxRecDepth 100000
set_option maxHeartbeats 0
open PySem PySem.W PySem.Calls PyProof.Rows
theorem PySem.Challenge.cw_readorder_k89_whole_any_order_of_adding_holds : PySem.Challenge.rw_readorder_k89_whole_any_order_of_adding.Holds := by
  w_on; o_law
  refine HandSHeadRun.head_any (r := OpenLaw.row PySem.Challenge.rw_readorder_k89_whole_any_order_of_adding) (q := view (OpenLaw.row PySem.Challenge.rw_readorder_k89_whole_any_order_of_adding).prog [62]) (H := RO.hkR) (ob := RO.obRR) (M := 4000) (loose := RO.names) (d := HandSHeadRun.topDef (OpenLaw.row PySem.Challenge.rw_readorder_k89_whole_any_order_of_adding).prog 62) (kwd := []) RO.obRR_eq
    (by kernel_rfl) (fun s => by kernel_rfl) RO.run (by kernel_rfl) (by kernel_rfl) (by kernel_rfl) (by rfl) (by first | assumption | decide +kernel) (by decide +kernel) ⟨rfl, rfl, rfl, rfl, rfl, by decide +kernel⟩ ?hw ?hc
  case hw => w_witness2
  case hc =>
    refine L2.walk_ofE (l := PySem.Challenge.rw_readorder_k89_whole_any_order_of_adding) (n := 63) (k := 72) (x := "_law_script") (CX := L2.CX0) rfl (by decide) (by kernel_rfl) ⟨rfl, by decide, by decide⟩ ?F (fun _ _ _ _ z => z)
    intro w mg fa h Y G hmg0
    obtain ⟨K, KX, c, e⟩ := Y
    have hmg : mg ("law" : PySem.Str) = some (.ref fa) := by
      have e : (HandSHeadRun.topDef (OpenLaw.row PySem.Challenge.rw_readorder_k89_whole_any_order_of_adding).prog 62).name = ("law" : PySem.Str) := by kernel_rfl
      rw [← e]
      exact hmg0
    obtain ⟨fd, hb, hF⟩ := RO.facts (P := (PySem.Challenge.rw_readorder_k89_whole_any_order_of_adding).prog) (w := w) KX G hmg c e
    exact ⟨K, fd, RO.spLaw K, KX, hb, fun H a ns hl _ hS => ⟨a, ns, rfl, hS, fun _ => rfl⟩, hF⟩

