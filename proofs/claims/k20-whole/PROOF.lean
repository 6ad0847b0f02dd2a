import PyProof.Rows.All
import Wide.All
import OpenK.AllK
import Wide.FinOn
import KE.GoesEnum
import KE.DataMinMax
import HandS.ForMost
import HandS.Strs
import HandS.Style
import HandS.TupAny
import HandS.TupMul
import HandS.Zip
import HandS.Conv
import HandS.Deep
import HandS.IsInst
import HandS.Walk
import HandS.ListItems
import KE.KDictList
import HandS.Defaults
import HandS.HeadHook1
import HandS.HeadHook2
import KE.KSortedM
import KE.KStateDown
import HandS.Head0
import HandS.Head1
import HandS.Head2
import HandS.HeadEnd
import PySem.Challenge.RW_fourstrokes_k20_whole_passes_and_stands
set_option Elab.async false
set_option maxRecDepth 100000
set_option maxHeartbeats 0
/-! Rules that the hand layer lacks: sorted of a tuple, max of pairs, enumerate of a tuple, tuple.index of an int, list(d.values()), a tuple backwards, tuple times one. -/
namespace K20
open PySem PySem.Spec PyProof.Rows L2

/-! ### sorted(tuple of ints) -/
section
variable {prog : Program} {w : World} {A : Around} {E : Value → Shared → Prop} {s : Shared}
theorem collect_tup {l : Addr} {vs : List Value} {Q : List Value → Shared → Prop} (ht : IsTup s.heap l vs.toArray) (hsz : vs.length ≤ sizeLine)
    (h : Q vs { s with heap := (s.heap.push (seqObj "list" #[] 0)).update s.heap.objs.size (Obj.mapSeq (· ++ vs.toArray)) }) :
    wpAny (model prog w) A (collect (.ref l)) Q E s := by
  obtain ⟨o, ho, hc, n, hd⟩ := id ht
  unfold collect
  refine wpAny_bind (wpAny_runValue (codeAny_builtin entry_proto_collect' ?_))
  show wpAny _ _ (do again (.builtin "list.__iadd__" ⟨[← newList [], .ref l], []⟩)) _ _ s
  refine wpAny_bind (wpAny_newList (wpAny_pure ⟨Code.quiet_builtin _ (by decide +kernel), codeAny_builtin entry_list_iadd' ?_⟩))
  show wpAny _ _ (Builtin.List.listExtendWith (.ref s.heap.objs.size) (.ref l) (.ref s.heap.objs.size)) _ _ { s with heap := s.heap.push (seqObj "list" #[] 0) }
  unfold Builtin.List.listExtendWith
  have ho2 : (s.heap.push (seqObj "list" #[] 0)).get? l = some o := Heap.get?_push_of_some _ ho
  refine wpAny_bind (wpAny_typeOf (T := "tuple") ⟨o, ho2, hc⟩ ?_)
  have e1 : (Value.type "tuple" == Value.type "tuple") = true := by rfl
  rw [if_pos (by rw [e1]; simp)]
  refine wpAny_bind (listItems_at ho2 hd ?_)
  refine wpAny_bind (listItems_at (xs := #[]) (n := 0) (Heap.get?_push_size _ rfl) rfl ?_)
  rw [if_neg (by simp)]
  refine wpAny_bind (listUpdate_at (xs := #[]) (n := 0) (Heap.get?_push_size _ rfl) rfl ?_ (Nat.zero_le _) (by show (#[] ++ vs.toArray).size ≤ sizeLine + 1; simp only [Array.size_append, List.size_toArray, List.length_nil]; omega))
  refine wpAny_pure ?_
  show wpAny (model prog w) A (do
      let o ← load s.heap.objs.size
      match o.data with
      | .seq xs _ => pure xs.toList
      | _ => unsupported "internal:collect") Q E { s with heap := (s.heap.push (seqObj "list" #[] 0)).update s.heap.objs.size (Obj.mapSeq (· ++ vs.toArray)) }
  refine wpAny_bind (wpAny_load (get?_update_seq (Heap.get?_push_size _ rfl) _) ?_)
  show wpAny _ _ (pure ((#[] : Array Value) ++ vs.toArray).toList) Q E _
  rw [show ((#[] : Array Value) ++ vs.toArray).toList = vs by simp]
  exact wpAny_pure h
theorem sorted_tup {l : Addr} {vs : List Value} {ns : List Int} {Q : Value → Shared → Prop} (ht : IsTup s.heap l vs.toArray) (hI : IntsAre vs ns) (h64 : vs.length < 64)
    (h : ∀ (out : Array Value) (ms : List Int), IntsAre out.toList ms → ms.Perm ns → ms.Pairwise (· ≤ ·) → Q (.ref (s.heap.objs.size + 1)) { s with heap := sortedAll s.heap vs out }) :
    wpAny (model prog w) A (call (.builtin "sorted") [.ref l]) Q E s := by
  refine Calls.call_function_entry kind_sorted plain_sorted entry_sorted (args_sorted1 _) ?_
  unfold Builtin.«sorted»
  refine wpAny_bind (m := checkCount "sorted" 1 1 _) (wpAny_pure ?_)
  refine wpAny_bind (collect_tup ht (by rw [sizeLine_eq]; omega) ?_)
  refine wpAny_bind (wpAny_newList ?_)
  have z1 : ((s.heap.push (seqObj "list" #[] 0)).update s.heap.objs.size (Obj.mapSeq (· ++ vs.toArray))).objs.size = s.heap.objs.size + 1 := by
    rw [Heap.size_update, size_push']
  have oL : (((s.heap.push (seqObj "list" #[] 0)).update s.heap.objs.size (Obj.mapSeq (· ++ vs.toArray))).push (seqObj "list" vs.toArray 0)).get? (s.heap.objs.size + 1) = some (seqObj "list" vs.toArray 0) := by
    rw [← z1]; exact Heap.get?_push_size _ rfl
  show wpAny _ _ _ _ _ { s with heap := ((s.heap.push (seqObj "list" #[] 0)).update s.heap.objs.size (Obj.mapSeq (· ++ vs.toArray))).push (seqObj "list" vs.toArray 0) }
  rw [z1]
  refine wpAny_bind (wpAny_holding (wpAny_call_entry slot_list_sort ⟨_, oL, rfl⟩ entry_list_sort (list_sort_tree oL hI h64 fun out ms a1 a2 a3 => ⟨_, rfl, ?_⟩) (args_list_sort _)))
  exact wpAny_pure ⟨_, rfl, h out ms a1 a2 a3⟩
end
section
variable {X : Cx}
def rSortT (K : PySem.W.Frag) : List V → Hp → VK → Prop := fun vs H Q => ∃ (a : Addr) (ns : List Int), vs = [V.ref a] ∧ SqT K H a (ns.map V.int) ∧ ns.length < 64 ∧
  ∀ (ms : List Int) (p : Addr), ms.Perm ns → ms.Pairwise (· ≤ ·) → H p = none → Q (.ref p) (upd H p (.lst (ms.map V.int)))
theorem cr_sortT : CallR X (.builtin "sorted") (rSortT X.K) := by
  intro pins s σ H vs us Q I r h
  obtain ⟨a, ns, rfl, hs, h64, q⟩ := h
  obtain ⟨its, rv, ht, _⟩ := I.tuple hs
  rw [Vals.ref1 r]
  have hi := rv.ints
  refine sorted_tup ht hi (by rw [hi.length]; exact h64) fun out ms h1 h2 h3 => ?_
  obtain ⟨ep, he⟩ := PyProof.Rows.sortedAll_at s.heap its out
  have hl : (ms.map V.int).length ≤ sizeLine := by rw [List.length_map, h2.length_eq]; exact small64 h64
  exact ⟨.ref _, upd H (s.heap.objs.size + 1) (.lst (ms.map V.int)), I.laid (t' := s.toks) (fun _ _ => PyProof.Rows.sortedAll_old) (Nat.le_succ _) ⟨hl, out.toList, ep, vals_of_ints h1, he⟩, rfl, q ms _ h2 h3 (I.hok.fresh (Nat.le_succ _))⟩
end

/-! ### t.index(n): the first place -/
section
variable {X : Cx}
def rIdxT (K : PySem.W.Frag) : V → List V → Hp → VK → Prop := fun x xs H Q => ∃ (p : Addr) (ns : List Int) (z : Int) (j : Nat), x = V.ref p ∧ xs = [V.int z] ∧ SqT K H p (ns.map V.int) ∧ ns[j]? = some z ∧ (∀ m, m < j → ns[m]? ≠ some z) ∧ Q (.int (j : Nat)) H
theorem flat_ints (ns : List Int) : (ns.map V.int).all flatV = true := by
  rw [List.all_map]
  exact List.all_eq_true.mpr fun _ _ => rfl
theorem mt_idxT : MtR X "tuple.index" (rIdxT X.K) := by
  intro pins s σ H x xs v us Q I rx rs h
  obtain ⟨p, ns, z, j, rfl, rfl, hq, hy, hno, q⟩ := h
  cases rx
  obtain ⟨u, rfl, t, rfl⟩ := vals1 rs
  obtain ⟨its, r, pl, hz⟩ := I.tuple hq
  obtain ⟨⟨cls, dd, dt, sl⟩, ho, hc, n, hd⟩ := pl
  simp only at hc hd
  subst hc hd
  have hl : its.toArray.size = ns.length := by rw [List.size_toArray, ← r.length, List.length_map]
  have hj : j < its.toArray.size := by rw [hl]; exact (List.getElem?_eq_some_iff.mp hy).1
  have hat : ∀ (m : Nat) (hm : m < its.toArray.size), ∃ y t', ns[m]? = some y ∧ its.toArray[m] = Value.int y t' := fun m hm => by
    have hm2 : m < ns.length := by rw [← hl]; exact hm
    obtain ⟨w2, hw, t', e2⟩ := r.get (i := m) (x := .int ns[m]) (by simp [hm2])
    refine ⟨ns[m], t', List.getElem?_eq_getElem hm2, ?_⟩
    have e := (List.getElem?_eq_some_iff.mp hw).2
    rw [← e2, ← e]
    simp
  refine call_meets PySem.F.slot_tuple_index ⟨_, ho, rfl⟩ PySem.F.entry_tuple_index (PySem.F.args_tuple_index_2 _ _) (TI.tuple_indexAt p its.toArray n dd sl (.int z t) (eqU (.int z)) j hj ?_ ?_)
    ⟨ho, fun w2 hw => mem_eqAt (x := .int z) ⟨t, rfl⟩ rfl r (flat_ints ns) w2 (by simpa using hw), ⟨.int (j : Nat), H, I.tok _, ⟨_, rfl⟩, q⟩⟩
  · obtain ⟨y, t', e1, e2⟩ := hat j hj
    rw [e2]
    have e3 : y = z := Option.some.inj (e1.symm.trans hy)
    subst e3
    simp [eqU, eqV]
  · intro m hm hmj
    obtain ⟨y, t', e1, e2⟩ := hat m hm
    rw [e2]
    have ne : y ≠ z := fun e => hno m hmj (by rw [e1, e])
    simp [eqU, eqV, ne]
end

/-! ### max of a list of pairs (int, tuple of ints): the first of the greatest; here: an item with the greatest int -/
def encP (p : Int × List Int) : PyData := .tuple [.int p.1, .tuple (p.2.map PyData.int)]
theorem alikeAll_ints : ∀ (as bs : List Int), PySem.W.alikeAll (as.map PyData.int) (bs.map PyData.int) = true
  | [], _ => by rw [List.map_nil, PySem.W.alikeAll]
  | _ :: _, [] => by rw [List.map_cons, List.map_nil, PySem.W.alikeAll]
  | a :: as, b :: bs => by
    rw [List.map_cons, List.map_cons, PySem.W.alikeAll, alikeAll_ints as bs]
    simp [PySem.W.alike]
theorem alike_encP (p q : Int × List Int) : PySem.W.alike (encP p) (encP q) = true := by
  simp [encP, PySem.W.alike, PySem.W.alikeAll, alikeAll_ints]
theorem lt_encP_ne {p q : Int × List Int} (h : p.1 ≠ q.1) : PySem.W.dataLt (encP p) (encP q) = decide (p.1 < q.1) := by
  have e : PyData.eqv (.int p.1) (.int q.1) = false := by simp [PyData.eqv, h]
  show PyProof.Rows.lexLt itemOrd (PySem.W.keyToksAll [.int p.1, .tuple (p.2.map PyData.int)]) (PySem.W.keyToksAll [.int q.1, .tuple (q.2.map PyData.int)]) = _
  rw [PySem.W.dataLt_all_no (by simp [PySem.W.alike]) e, PySem.W.dataLt_int]
/-- the fold picks an item whose int is the greatest -/
theorem maxD_encP : ∀ (ps : List (Int × List Int)) (p : Int × List Int), ∃ q, q ∈ p :: ps ∧ PySem.W.maxD (encP p) (ps.map encP) = encP q ∧ ∀ r ∈ p :: ps, r.1 ≤ q.1
  | [], p => ⟨p, List.mem_cons_self, rfl, fun r hr => by rw [List.mem_singleton.mp hr]; exact Int.le_refl _⟩
  | a :: ps, p => by
    have e1 : PySem.W.maxD (encP p) ((a :: ps).map encP) = PySem.W.maxD (if PySem.W.dataLt (encP p) (encP a) = true then encP a else encP p) (ps.map encP) := rfl
    by_cases c : PySem.W.dataLt (encP p) (encP a) = true
    · obtain ⟨q, h1, h2, h3⟩ := maxD_encP ps a
      rw [e1, if_pos c]
      refine ⟨q, List.mem_cons_of_mem _ h1, h2, fun r hr => ?_⟩
      rcases List.mem_cons.mp hr with e | hr
      · rw [e]
        have h4 := h3 a List.mem_cons_self
        by_cases ne : p.1 = a.1
        · omega
        · rw [lt_encP_ne ne] at c
          have := of_decide_eq_true c
          omega
      · exact h3 r hr
    · obtain ⟨q, h1, h2, h3⟩ := maxD_encP ps p
      rw [e1, if_neg c]
      refine ⟨q, ?_, h2, fun r hr => ?_⟩
      · rcases List.mem_cons.mp h1 with e | h1
        · rw [e]; exact List.mem_cons_self
        · exact List.mem_cons_of_mem _ (List.mem_cons_of_mem _ h1)
      · rcases List.mem_cons.mp hr with e | hr
        · rw [e]; exact h3 p List.mem_cons_self
        · rcases List.mem_cons.mp hr with e | hr
          · rw [e]
            have h4 := h3 p List.mem_cons_self
            by_cases ne : p.1 = a.1
            · omega
            · rw [lt_encP_ne ne] at c
              have : ¬ p.1 < a.1 := fun z => c (decide_eq_true z)
              omega
          · exact h3 r (List.mem_cons_of_mem _ hr)
theorem depth_ints : ∀ ns : List Int, PyData.depthAll (ns.map PyData.int) ≤ 1
  | [] => by rw [List.map_nil]; simp [PyData.depthAll]
  | n :: ns => by
    have := depth_ints ns
    rw [List.map_cons]
    simp only [PyData.depthAll, PyData.depth]
    omega
theorem depth_encP : ∀ ps : List (Int × List Int), PyData.depthAll (ps.map encP) ≤ 3
  | [] => by rw [List.map_nil]; simp [PyData.depthAll]
  | p :: ps => by
    have h1 := depth_encP ps
    have h2 := depth_ints p.2
    rw [List.map_cons]
    simp only [PyData.depthAll, encP, PyData.depth]
    omega
/-- a pair (int, tuple of ints) stands at x -/
def PT2 (K : PySem.W.Frag) (H : Hp) (x : V) (p : Int × List Int) : Prop := ∃ t u : Addr, x = .ref t ∧ SqT K H t [.int p.1, .ref u] ∧ SqT K H u (p.2.map V.int)
theorem dpAll_ints (K : PySem.W.Frag) (H : Hp) : ∀ ns : List Int, DpAll K H (ns.map V.int) (ns.map PyData.int)
  | [] => .nil
  | n :: ns => .cons (.int n) (dpAll_ints K H ns)
theorem PT2.dp {K : PySem.W.Frag} {H : Hp} {x : V} {p : Int × List Int} (h : PT2 K H x p) : Dp K H x (encP p) := by
  obtain ⟨t, u, rfl, h1, h2⟩ := h
  exact .tup h1 (.cons (.int _) (.cons (.tup h2 (dpAll_ints K H p.2)) .nil))
theorem dpAll_pt {K : PySem.W.Frag} {H : Hp} : ∀ {xs : List V} {ps : List (Int × List Int)}, Paired (PT2 K H) xs ps → DpAll K H xs (ps.map encP)
  | _, _, .nil => .nil
  | _, _, .cons h t => .cons h.dp (dpAll_pt t)
def rMaxP (K : PySem.W.Frag) : List V → Hp → VK → Prop := fun vs H Q => ∃ (a : Addr) (xs : List V) (ps : List (Int × List Int)), vs = [V.ref a] ∧ SqL K H a xs ∧ Paired (PT2 K H) xs ps ∧ ps ≠ [] ∧
  ∀ (i : Nat) (x : V) (p : Int × List Int), xs[i]? = some x → ps[i]? = some p → (∀ r ∈ ps, r.1 ≤ p.1) → Q x H
theorem paired_at {α β : Type} {F : α → β → Prop} : ∀ {xs : List α} {ys : List β}, Paired F xs ys → ∀ {i : Nat} {x : α}, xs[i]? = some x → ∃ y, ys[i]? = some y ∧ F x y
  | _, _, .nil, _, _, h => by cases h
  | _, _, .cons r _, 0, _, h => by
    cases Option.some.inj h
    exact ⟨_, rfl, r⟩
  | _, _, .cons _ t, i + 1, _, h => paired_at t h
theorem reads_int {h : Heap} {a b : Int} {t : Tok} {as : List Addr} (r : Reads h (.int a t) (.int b) as) : a = b := by
  cases r
  rfl
section
variable {X : Cx}
theorem cr_maxP (hc : X.calm = true) (hu : X.A.units + 64 < cLine) : CallR X (.builtin "max") (rMaxP X.K) := by
  intro pins s σ H vs us Q I r h
  obtain ⟨a, xs, ps, rfl, hs, hp, hne, q⟩ := h
  obtain ⟨its, rv, hl, hz⟩ := I.list hs
  rw [Vals.ref1 r]
  obtain ⟨as, hr⟩ := Dp.readsAll I _ _ _ (dpAll_pt hp) rv
  cases ps with
  | nil => exact absurd rfl hne
  | cons p ps =>
    have hr2 : ReadsAll s.heap its.toArray.toList (encP p :: ps.map encP) as := by simpa using hr
    have hd := depth_encP (p :: ps)
    refine PySem.W.max_list_data (I.ok.hd hc) hl.isList hr2 ⟨fun x hx y hy => ?_, fun x hx => ?_⟩ (by rw [List.map_cons] at hd; omega) fun i v h' tk bs hv hrd hk => ?_
    · obtain ⟨p1, _, rfl⟩ := List.mem_map.mp (show x ∈ (p :: ps).map encP from hx)
      obtain ⟨p2, _, rfl⟩ := List.mem_map.mp (show y ∈ (p :: ps).map encP from hy)
      exact alike_encP p1 p2
    · obtain ⟨p1, _, rfl⟩ := List.mem_map.mp (show x ∈ (p :: ps).map encP from hx)
      intro z
      cases z
    · obtain ⟨m, hm1, hm2, hm3⟩ := maxD_encP ps p
      rw [hm2] at hrd
      have hv2 : its[i]? = some v := by simpa using hv
      have hi : i < xs.length := by rw [rv.length]; exact (List.getElem?_eq_some_iff.mp hv2).1
      obtain ⟨w2, e1, r1⟩ := rv.get (i := i) (x := xs[i]) (List.getElem?_eq_getElem hi)
      cases Option.some.inj (e1.symm.trans hv2)
      obtain ⟨pi, e2, hpt⟩ := paired_at hp (List.getElem?_eq_getElem hi)
      have I2 : Inv X pins σ H { s with heap := h', toks := tk } := I.kept hk
      obtain ⟨t, u, ex, h1, h2⟩ := id hpt
      rw [ex] at r1
      cases r1
      obtain ⟨it2, rv2, ⟨o, ho, hc2, n, hd2⟩, _⟩ := I2.tuple h1
      have e3 : pi.1 = m.1 := by
        cases hrd with
        | tuple g1 g2 g3 g4 =>
          rw [show h'.get? t = _ from ho] at g1
          cases g1
          rw [hd2] at g3
          injection g3 with g5 _
          subst g5
          simp only at g4
          cases rv2 with
          | cons ra rb =>
            obtain ⟨tt, rfl⟩ := ra
            cases g4 with
            | cons ga gb => exact reads_int ga
      exact ⟨xs[i], H, I2, by rw [ex]; rfl, q i _ pi (List.getElem?_eq_getElem hi) e2 fun r hr => by rw [e3]; exact hm3 r hr⟩
end

/-! ### for i, x in enumerate(a tuple) -/
theorem meets_enum_newT (l : Addr) (items : Array Value) :
    Meets (Builtin.«enumerate.__new__» ⟨[.type "enumerate", .ref l], []⟩) (fun _ R s => s.heap.IsTuple l items ∧
      R (.ok (.ret (.ref (s.heap.push { cls := .type "tuple_iterator", data := .fields #[.ref l, .int 0 0] }).objs.size)))
        { s with heap := (s.heap.push { cls := .type "tuple_iterator", data := .fields #[.ref l, .int 0 0] }).push { cls := .type "enumerate", data := .fields #[.none, .bool false, .ref s.heap.objs.size, rawInt 0, .none, .none] } }) :=
  .of_wp fun prog w A R s h => by
    obtain ⟨hp, g, d, tk, os⟩ := s
    obtain ⟨hl, h⟩ := h
    have hsub := sub_enumerate
    have q1 : ∀ {B : Around} {E : Value → Shared → Prop} {Q : Value → Shared → Prop}, Q (.ref hp.objs.size) ⟨hp.push { cls := .type "tuple_iterator", data := .fields #[.ref l, .int 0 0] }, g, d, tk, os⟩ → wpAny (model prog w) B (pyIter (.ref l)) Q E ⟨hp, g, d, tk, os⟩ :=
      fun q => (begins_tuple l items).iter prog w _ _ ⟨hp, g, d, tk, os⟩ _ hl q
    wp_walk using q1
    refine wpAny_stack_any fun st => wpAny_pure ?_
    split
    · rename_i c _ _ _ _ _
      cases (c == Value.type "enumerate")
      · wp_walk using q1
        exact ⟨_, rfl, h⟩
      · wp_walk using q1
        exact ⟨_, rfl, h⟩
    · wp_walk using q1
      exact ⟨_, rfl, h⟩
section
variable {prog : Program} {w : World} {A : Around} {E : Value → Shared → Prop} {s : Shared}
theorem call_enumT {l : Addr} {items : Array Value} {Q : Value → Shared → Prop} (hL : s.heap.IsTuple l items)
    (h : ∀ g, IsEnum g (s.heap.objs.size + 1) s.heap.objs.size 0 .none → g.IsTupleIter s.heap.objs.size l 0 → g.objs.size = s.heap.objs.size + 2 →
      (∀ b o, s.heap.get? b = some o → g.get? b = some o) → Q (.ref (s.heap.objs.size + 1)) { s with heap := g }) :
    wpAny (model prog w) A (call (.type "enumerate") [.ref l]) Q E s := by
  refine callType_new F.called_enumerate (by decide) (F.typeCall_enumerate_1 _) (F.newCall_enumerate_1 _) (fun obj => F.args_object_init_2 obj _) F.entry_enumerate_new
    (meets_enum_newT l items) ⟨hL, ?_⟩
  have hz : (s.heap.push { cls := .type "tuple_iterator", data := .fields #[.ref l, .int 0 0] }).objs.size = s.heap.objs.size + 1 := Heap.size_push ..
  show _ ∧ _
  rw [hz]
  have he : IsEnum ((s.heap.push { cls := .type "tuple_iterator", data := .fields #[.ref l, .int 0 0] }).push
      { cls := .type "enumerate", data := .fields #[.none, .bool false, .ref s.heap.objs.size, rawInt 0, .none, .none] }) (s.heap.objs.size + 1) s.heap.objs.size 0 .none := by
    have q := Heap.get?_push_size (s.heap.push { cls := .type "tuple_iterator", data := .fields #[.ref l, .int 0 0] })
      (o := { cls := .type "enumerate", data := .fields #[.none, .bool false, .ref s.heap.objs.size, rawInt 0, .none, .none] }) rfl
    rw [hz] at q
    exact q
  exact ⟨⟨_, he, rfl⟩, h _ he ⟨_, Heap.get?_push_of_some _ (Heap.get?_push_size _ rfl), rfl, rfl⟩ (by rw [Heap.size_push, hz]) fun b o x => Heap.get?_push_of_some _ (Heap.get?_push_of_some _ x)⟩
end
section
variable {prog : Program} {w : World} {A : Around} {E : Value → Shared → Prop} {s : Shared}
theorem enumT_end {e it t : Addr} {i : Nat} {items : Array Value} {old : Value} {Q : Option Value → Shared → Prop} (hh : A.handled = none) (he : IsEnum s.heap e it i old) (hit : s.heap.IsTupleIter it t i) (ht : s.heap.IsTuple t items) (hx : items[i]? = none)
    (hQ : ∀ g, Heap.ExtBut it s.heap g → Q none { s with heap := g }) : wpAny (model prog w) A (pyNext (.ref e)) Q E s := by
  have hT : s.TypeIs (.ref e) "enumerate" := ⟨_, he, rfl⟩
  unfold pyNext
  refine wpAny_bind (wpAny_attempt (wpAny_callSpecial?_slot (name := Str.ofString "__next__") hT F.slot_enumerate_next
    (wpAny_call_entry F.slot_enumerate_next hT F.entry_enumerate_next ?_ (F.args_enumerate_next_1 _))))
  show wpAny _ _ (field (.ref e) 2 >>= _) _ _ _
  refine wpAny_bind (wpAny_field he rfl (x := .ref it) rfl ?_)
  refine wpAny_bind (wpAny_nextOf_tuple_end (A := A.in1) hh hit ht hx fun g x he2 hx2 => ?_)
  obtain ⟨o, ho, hc⟩ := hx2
  refine wpAny_bind (wpAny_isInstance (T := "StopIteration") (b := true) ⟨o, ho, hc⟩ isSubtype_stop ?_)
  exact wpAny_pure (hQ _ he2)
end
/-- the tuple at a, each item in a new pair -/
def IteT (K : PySem.W.Frag) (a : Addr) : It :=
  ⟨fun i H => ∃ (xs : List V) (x : V), SqT K H a xs ∧ xs[i]? = some x, fun i H v G => ∃ T x, v = .ref T ∧ H T = none ∧ G = upd H T (.tup [.int (i : Nat), x]) ∧ ∀ xs, SqT K H a xs → xs[i]? = some x, fun i H => ∃ xs : List V, SqT K H a xs ∧ xs.length ≤ i⟩
theorem enum_ne_tup {h : Heap} {e it t : Addr} {i : Int} {old : Value} {its : Array Value} (he : IsEnum h e it i old) (ht : IsTup h t its) : e ≠ t := fun z => by
  obtain ⟨o, ho, hc, _⟩ := ht
  subst z
  have he' : h.get? e = _ := he
  rw [he'] at ho
  cases ho
  have e1 : Value.type "enumerate" = Value.type "tuple" := hc
  injection e1 with e2
  exact absurd e2 (by decide)
theorem turn_enumT {P : Program} {w : World} {K : PySem.W.Frag} {elts : List Expr} {kk : Nat} {tpos : Pos} (a e it : Addr) :
    Turn P w K (.Tuple elts kk tpos) (IteT K a) [e, it] e (fun i h => (∃ old, IsEnum h e it ((i : Nat) : Int) old) ∧ h.IsTupleIter it a i ∧ e ≠ it ∧ it ≠ a) where
  mem := by simp
  obj := fun i h st b hb => by
    obtain ⟨⟨old, he⟩, ⟨o, ho, hc, hd⟩, _⟩ := st
    have e2 : b = e ∨ b = it := by simpa using hb
    rcases e2 with z | z
    · rw [z]; exact ⟨_, he, fun v q => nomatch q⟩
    · rw [z]; exact ⟨o, ho, fun v q => by rw [hd] at q; cases q⟩
  keep := fun i h h' st k => let ⟨⟨old, he⟩, hi, hne⟩ := st; ⟨⟨old, k e (by simp) _ he⟩, hi.at fun o q => k it (by simp) o q, hne⟩
  item := by
    intro X hP hw hK hc i pins s σ H E I hf st hg
    subst hP hw hK
    obtain ⟨⟨old, he⟩, hit, hne, hia⟩ := st
    obtain ⟨xs, x, hq, hx⟩ := hg
    obtain ⟨its, rv, p, hz⟩ := I.tuple hq
    have hel : e < s.heap.objs.size := Heap.lt_size he
    have hil : it < s.heap.objs.size := by obtain ⟨_, q, _⟩ := hit; exact Heap.lt_size q
    have hlen := rv.length
    have hix : i < xs.length := (List.getElem?_eq_some_iff.mp hx).1
    refine wpAny_pyNext_enum_itemD (Draws.tuple (A := X.A.in1) (I.ok.hd hc) it a (Ne.symm hia) its.toArray) he ⟨hit, p⟩ (by simp; omega) hne (fun z => ?_) fun x2 g tk hP2 ho hst hT hsz hk => ?_
    · rcases List.mem_cons.mp z with z | z
      · exact hne z
      · exact enum_ne_tup he p (List.mem_singleton.mp z)
    have hu : its[i]? = some x2 := by simpa using hP2
    obtain ⟨u, hu2, ru⟩ := rv.get hx
    cases Option.some.inj (hu2.symm.trans hu)
    refine ⟨_, rfl, wpAny_letOwnedTupleGo_enum (s := { s with heap := g, toks := tk + 1 }) ho fun g2 he2 sb => ?_⟩
    have hT2 : g2.get? s.heap.objs.size = some { cls := .type "tuple", data := .seq #[.int i tk, x2] } := (sb.2 _ (Nat.ne_of_gt hel)).trans hT
    have new : ObjOk X.prog X.w (upd H s.heap.objs.size (.tup [.int (i : Nat), x])) g2 s.heap.objs.size (.tup [.int (i : Nat), x]) :=
      ⟨by show 2 ≤ sizeLine; decide, [.int i tk, x2], .cons ⟨_, rfl⟩ (.cons ru .nil), ⟨_, hT2, rfl, _, rfl⟩⟩
    have I1 : Inv X pins σ (upd H s.heap.objs.size (.tup [.int (i : Nat), x])) { s with heap := g2, toks := tk + 1 } :=
      I.turnedNew (ch := [e, it]) (fun b ob hb q => (sb.2 b (fun z => hb (by simp [z]))).trans (hk b ob (fun z => hb (by simp [z])) (fun z => hb (by simp [z])) q)) hf (Nat.le_refl _) new
    refine ⟨.ref s.heap.objs.size, _, I1, rfl, ⟨_, x, rfl, I.hok.fresh (Nat.le_refl _), rfl, fun ys hy => by rw [I.tuple_inj hy hq]; exact hx⟩, ⟨⟨x2, ?_⟩, hst.1.at fun o q => (sb.2 it (Ne.symm hne)).trans q, hne, hia⟩, fun b hb => ?_⟩
    · have e1 : ((i + 1 : Nat) : Int) = (i : Int) + 1 := by omega
      rw [e1]; exact he2
    · have hb2 : b < s.heap.objs.size := by
        have e2 : b = e ∨ b = it := by simpa using hb
        rcases e2 with z | z
        · rw [z]; exact hel
        · rw [z]; exact hil
      rw [upd_ne (Nat.ne_of_lt hb2)]
      exact (hf b hb).1
  done := by
    intro X hP hw hK hc i pins s σ H E I hf st hg
    subst hP hw hK
    obtain ⟨⟨old, he⟩, hit, hne, hia⟩ := st
    obtain ⟨xs, hq, hx⟩ := hg
    obtain ⟨its, rv, p, hz⟩ := I.tuple hq
    obtain ⟨f0, f1, f2, f3, f4, f5⟩ := hf it (by simp)
    have hl := rv.length
    exact enumT_end (I.ok.hd hc) he hit p (by simp; omega) fun g eb => ⟨rfl, I.turned (t' := s.toks) (fun b o hb q => eb b o hb q) f0 f1 f3 f4 f5⟩
  self := fun A i s Q E st h => let ⟨⟨_, he⟩, _⟩ := st; wpAny_pyIter_enum he h
def iEnumT (K : PySem.W.Frag) (ta : TA) : TI := fun σ H R => ta σ H fun vs H1 => ∃ a xs, vs = [.ref a] ∧ SqT K H1 a xs ∧ R (IteT K a) H1
theorem pi_enumT {X : Cx} {e : Expr} {ta : TA} {p pos tpos : Pos} {elts : List Expr} {kk : Nat} (hg : Gl X "enumerate") (hm : X.mg "enumerate" = none) (ha : PA X [e] ta) (hs : starEach [e] X.env = [(false, eval e X.env)] := by rfl) :
    PI X (.Tuple elts kk tpos) (.Call (.Name "enumerate" p) [e] [] pos) (iEnumT X.K ta) := by
  refine ⟨fun pins s σ H R I h => ?_⟩
  refine Call_ (ld_blt I hg hm boot_enumerate (PyProof.Rows.callWith_type1 (thn (ha.run pos pins s σ H _ I h) fun us s1 ⟨vs, H1, I1, r1, q1⟩ => ?_) hs rfl))
  obtain ⟨a, xs, ex, hq, q⟩ := q1
  subst ex
  cases r1 with
  | cons r rr =>
    cases rr
    cases r
    obtain ⟨its, rv, p2, hz⟩ := I1.tuple hq
    refine call_enumT (show s1.heap.IsTuple a its.toArray from p2) fun g he hit hsz hk => wpAny_pyIter_enum he ?_
    have I2 : Inv X pins σ H1 { s1 with heap := g } := I1.kept (t' := s1.toks) hk
    have hal : a < s1.heap.objs.size := by obtain ⟨_, z, _⟩ := p2; exact Heap.lt_size z
    refine ⟨s1.heap.objs.size + 1, [s1.heap.objs.size + 1, s1.heap.objs.size], _, _, H1, rfl, I2, turn_enumT a (s1.heap.objs.size + 1) s1.heap.objs.size, ⟨⟨.none, he⟩, hit, Nat.succ_ne_self _, Nat.ne_of_gt hal⟩, fun b hb => ?_, q⟩
    have e2 : b = s1.heap.objs.size + 1 ∨ b = s1.heap.objs.size := by simpa using hb
    have hle : s1.heap.objs.size ≤ b := by
      rcases e2 with z | z
      · rw [z]; exact Nat.le_add_right _ _
      · rw [z]; exact Nat.le_refl _
    exact I1.fpOk hle (I1.hok.fresh hle)
theorem walk_enumT {K : PySem.W.Frag} {a : Addr} {xs : List V} : Walk (IteT K a) xs.length (fun H => SqT K H a xs) (YPair (fun i => some (.int (i : Nat))) (fun i => xs[i]?)) := by
  refine ⟨fun i _ hi q => ⟨xs, xs[i], q, by simp [hi]⟩, fun _ q => ⟨xs, q, Nat.le_refl _⟩, fun i H v G _ q y => ?_⟩
  obtain ⟨T, x, h1, h2, h3, h4⟩ := y
  exact ⟨T, .int (i : Nat), x, h1, h2, h3, rfl, h4 xs q⟩

/-! ### list(d.values()) -/
def tListVals (te : TE) : TE := fun σ H Q => te σ H fun x H1 => ∃ (d : Addr) (kvs : List (Key × V)), x = .ref d ∧ H1 d = some (.dK kvs) ∧ ∀ p, H1 p = none → Q (.ref p) (upd H1 p (.lst (kvs.map (·.2))))
theorem kv_snd {kvs : List (Key × V)} {vs : List (Key × Value)} (k : KV kvs vs) : Vals (kvs.map (·.2)) (vs.map (·.2)) := by
  induction k with
  | nil => exact .nil
  | cons h t ih => exact .cons h.2 ih
section
variable {X : Cx} {e : Expr} {te : TE} {p apos cpos pos : Pos}
theorem pe_listVals (hc : X.calm = true) (he : PE X e te) (hg : Gl X "list") (hm : X.mg "list" = none) (hv : bootBuiltins "list" = some (.type "list") := by decide +kernel) (hbase : attributeBase e "values" X.env (eval e X.env) = eval e X.env := by rfl) (hline : (apos.endLine == cpos.line) = true := by rfl)
    (hs : starEach [.Call (.Attribute e "values" apos) [] [] cpos] X.env = (false, eval (.Call (.Attribute e "values" apos) [] [] cpos) X.env) :: starEach [] X.env := by rfl) :
    PE X (.Call (.Name "list" p) [.Call (.Attribute e "values" apos) [] [] cpos] [] pos) (tListVals te) := by
  refine ⟨fun pins s σ H Q I hq => ?_⟩
  refine wpAny_Call_Name_kw (ld_blt I hg hm hv ?_)
  refine PyProof.Rows.callWith_type1 ?_ hs rfl
  rw [hs]
  show wpAny _ _ (spliced ((false, eval (.Call (.Attribute e "values" apos) [] [] cpos) X.env) :: backTo pos (starEach [] X.env))) _ _ s
  refine Calls.spliced_cons ?_
  refine wpAny_Call_method (T := "dict") (id := "dict.values") hbase rfl hline F.plainAttrs_dict F.slot_dict_values F.type_dict_values (thn (he.run pins s σ H _ I hq) fun u s1 ⟨x, H1, I1, rx, d, kvs, ex, hd, q⟩ => ?_)
  subst ex
  obtain rfl : u = Value.ref d := rx
  obtain ⟨hz, hs0, vs, kv, hdo⟩ := I1.hok d _ hd
  obtain ⟨ep, hat⟩ := hdo.dictAt
  have lk : kvs.length = vs.length := Paired.length kv
  have I2 : Inv X pins σ H1 { s1 with heap := s1.heap.push { cls := .type "dict_values", data := .fields #[.ref d] } } := I1.kept (t' := s1.toks) fun b ob q => Heap.get?_push_of_some _ q
  refine ⟨hdo.typeIs, hdo.mapOf.noDict, ?_⟩
  show wpAny _ _ (callWith cpos (.builtin "dict.values") [.ref d] [] []) _ X.xe s1
  refine method_meetsIn F.slot_dict_values F.entry_dict_values rfl (PySem.evalArgs_none ⟨rfl, hdo.typeIs, F.args_dict_values_1 _, _, meets_dict_values (mixKind X.prog X.w) d hs0, ⟨vs, hdo⟩, ?_⟩)
  refine Calls.spliced_nil ?_
  refine PySem.W.kdl_call (PySem.W.kdl_values (knd := mixKind X.prog X.w) (kvs := vs) (ep := ep) (d := d)) (I1.ok.hd hc) ⟨⟨_, Heap.get?_push_size _ rfl, rfl, rfl⟩, hat.push _⟩ (by omega) fun g tk acc c hk hS hacc => ?_
  have el : acc.toList.length = vs.length := by rw [Array.length_toList]; exact hacc.1
  have ev : acc.toList = vs.map (·.2) := PySem.W.kdl_vals_eq acc.toList el fun j v ej => hacc.2 j v (by rw [← Array.getElem?_toList]; exact ej)
  refine ⟨.ref _, _, I2.laid (t' := tk) (o := .lst (kvs.map (·.2))) hk (Nat.le_refl _) ⟨by rw [List.length_map]; exact hz, acc.toList, c, by rw [ev]; exact kv_snd kv, by rw [Array.toArray_toList]; exact hS⟩, rfl, q _ (I2.hok.fresh (Nat.le_refl _))⟩
end

/-! ### t[::-1] of a tuple -/
section
variable {prog : Program} {w : World} {A : Around} {E : Value → Shared → Prop} {s : Shared}
theorem sliceApplied_back {sl : Addr} {k : Tok} {n : Nat} {Q : Int × Int × Nat → Shared → Prop} (hs : s.heap.IsSliceOf sl .none .none (.int (-1) k))
    (h : Q (((n : Nat) : Int) - 1, -1, n) s) : wpAny (model prog w) A (Builtin.Slice.sliceApplied (.ref sl) (pure (n : Int))) Q E s := by
  obtain ⟨os, hos, hcs, hds⟩ := id hs
  have e1 : Builtin.Slice.sliceAdjust none none (-1) (n : Int) = ((n : Int) - 1, -1) := by
    unfold Builtin.Slice.sliceAdjust
    simp
  have e2 : Builtin.Slice.slicePlaces ((n : Int) - 1) (-1) (-1) = n := by
    unfold Builtin.Slice.slicePlaces
    have h1 : ¬ ((-1 : Int) > 0) := by omega
    rw [if_neg h1]
    by_cases h2 : (n : Int) - 1 > -1
    · rw [if_pos h2]
      have e3 : ((n : Int) - 1 - (-1) - 1) / (-(-1)) + 1 = (n : Int) := by
        have e4 : -(-1 : Int) = 1 := rfl
        rw [e4, Int.ediv_one]
        omega
      rw [e3]
      rfl
    · rw [if_neg h2]
      omega
  unfold Builtin.Slice.sliceApplied Builtin.Slice.sliceFields
  refine wpAny_bind (wpAny_bind (wpAny_field hos hds (x := .none) rfl (wpAny_bind (wpAny_field hos hds (x := .none) rfl (wpAny_bind (wpAny_field hos hds (x := .int (-1) k) rfl (wpAny_pure ?_)))))))
  refine wpAny_bind (slicePart_int ?_)
  show wpAny _ _ (if ((-1 : Int) == 0) = true then _ else _) _ _ s
  rw [if_neg (by decide)]
  refine wpAny_bind (slicePart_none (wpAny_bind (slicePart_none (wpAny_bind (wpAny_pure ?_)))))
  show wpAny _ _ (match Builtin.Slice.sliceAdjust none none (-1) (n : Int) with | (lo, hi) => pure (lo, (-1 : Int), Builtin.Slice.slicePlaces lo hi (-1))) _ _ s
  rw [e1]
  show wpAny _ _ (pure ((n : Int) - 1, (-1 : Int), Builtin.Slice.slicePlaces ((n : Int) - 1) (-1) (-1))) _ _ s
  rw [e2]
  exact wpAny_pure h
theorem fm_congr {α β : Type} {f g : α → Option β} : ∀ {l : List α}, (∀ a ∈ l, f a = g a) → l.filterMap f = l.filterMap g
  | [], _ => rfl
  | a :: l, h => by
    rw [List.filterMap_cons, List.filterMap_cons, h a List.mem_cons_self, fm_congr fun b hb => h b (List.mem_cons_of_mem _ hb)]
theorem pick_back (xs : Array Value) : ((List.range xs.size).filterMap fun (m : Nat) => xs[((((xs.size : Nat) : Int) - 1) + (m : Int) * (-1)).toNat]?).toArray = xs.toList.reverse.toArray := by
  have e := HT.pick_gen xs.toList.reverse.toArray 0 xs.size
  have e2 : ((xs.toList.reverse.toArray.toList.drop 0).take xs.size).toArray = xs.toList.reverse.toArray := by
    rw [List.drop_zero, List.take_of_length_le (by simp)]
  rw [e2] at e
  rw [← e]
  congr 1
  refine fm_congr fun m hm => ?_
  have hm2 : m < xs.size := List.mem_range.mp hm
  have e3 : ((((xs.size : Nat) : Int) - 1) + (m : Int) * (-1)).toNat = xs.size - 1 - m := by omega
  have e4 : (((0 : Nat) : Int) + (m : Int) * 1).toNat = m := by omega
  have e5 : xs.toList.reverse.toArray[m]? = xs.toList.reverse[m]? := by simp
  rw [e3, e4, e5, List.getElem?_reverse (by simpa using hm2), Array.length_toList, Array.getElem?_toList]
theorem getItem_tup_back {t sl : Addr} {items : Array Value} {k : Tok} {Q : Value → Shared → Prop} (ht : IsTup s.heap t items) (hs : s.heap.IsSliceOf sl .none .none (.int (-1) k)) (hsz : items.size ≤ sizeLine)
    (h : Q (.ref s.heap.objs.size) { s with heap := s.heap.push { cls := .type "tuple", data := .seq items.toList.reverse.toArray } }) : wpAny (model prog w) A (getItem (.ref t) (.ref sl)) Q E s := by
  obtain ⟨os, hos, hcs, hds⟩ := id hs
  have hTs : s.TypeIs (.ref sl) "slice" := ⟨os, hos, hcs⟩
  unfold getItem
  try with_reducible refine wpAny_holding ?_
  first | refine wpAny_bind (wpAny_pure ?_) | skip
  refine wpAny_bind (wpAny_sequenceKey ht.typeIs (by decide) ?_)
  refine wpAny_bind (wpAny_callSpecial?_slot (name := Str.ofString "__getitem__") ht.typeIs PyProof.Rows.slot_tuple_getitem
    (wpAny_call_entry PyProof.Rows.slot_tuple_getitem ht.typeIs entry_tuple_getitem ?_ (args_tuple_getitem _ _)))
  show wpAny _ _ (Builtin.Tuple.tupleItemsOf (.ref t) >>= _) _ _ s
  refine wpAny_bind (tupleItemsOf_ ht ?_)
  refine wpAny_bind (wpAny_typeOf hTs ?_)
  rw [if_pos (by decide)]
  refine wpAny_bind (sliceApplied_back hs ?_)
  show wpAny _ _ (if ((((items.size : Nat) : Int) - 1) == 0 && (-1 : Int) == 1 && items.size == items.size) = true then _ else _) _ _ s
  rw [if_neg (by simp), pick_back]
  have htake : sizeOk (.seq items.toList.reverse.toArray) := by
    show items.toList.reverse.toArray.size ≤ sizeLine
    rw [List.size_toArray, List.length_reverse, Array.length_toList]
    exact hsz
  first
    | exact wpAny_bind (m := Builtin.Tuple.tupleExact _) (wpAny_newObj_type (wpAny_pure ⟨_, rfl, wpAny_pure h⟩) htake)
    | exact wpAny_bind (m := Builtin.Tuple.tupleExact _) (wpAny_newObj_type (wpAny_bind (wpAny_pure (wpAny_pure ⟨_, rfl, wpAny_pure h⟩))) htake)
end
section
variable {X : Cx}
def tRevT (K : PySem.W.Frag) (te : TE) : TE := fun σ H Q => te σ H fun x H1 => ∃ a xs, x = .ref a ∧ SqT K H1 a xs ∧ ∀ p, H1 p = none → Q (.ref p) (upd H1 p (.tup xs.reverse))
theorem pe_revT {e : Expr} {te : TE} {k : Nat} {p1 p2 p3 pos : Pos} (he : PE X e te) : PE X (.Subscript e (.Slice none none (some (.UnaryOp .USub (.Constant (.int 1) k p1) p2)) p3) pos) (tRevT X.K te) := by
  refine ⟨fun pins s σ H Q I h => ?_⟩
  refine Subscript_ (thn (he.run pins s σ H _ I h) fun v s1 ⟨x, H1, I1, r1, q1⟩ => ?_)
  obtain ⟨a, xs, ex, hx, q⟩ := q1
  subst ex
  cases r1
  have hst : PO X (some (.UnaryOp .USub (.Constant (.int 1) k p1) p2)) (tPart (tUn (rU fun i => .int (-i)) (tC (.int 1)))) := po_some (pe_un un_neg pe_int)
  refine wpAny_Slice (thn (po_none.run pins s1 σ H1 (fun o H2 => o = none ∧ H2 = H1) I1 ⟨rfl, rfl⟩) fun vl s2 ⟨l, H2, I2, pl, el, e2⟩ => ?_)
  subst el e2
  refine thn (po_none.run pins s2 σ H2 (fun o H3 => o = none ∧ H3 = H2) I2 ⟨rfl, rfl⟩) fun vu s3 ⟨u, H3, I3, pu, eu, e3⟩ => ?_
  subst eu e3
  refine thn (hst.run pins s3 σ H3 (fun o H4 => o = some (-1) ∧ H4 = H3) I3 ⟨1, rfl, -1, rfl, rfl, rfl⟩) fun vs s4 ⟨o, H4, I4, ps, eo, e4⟩ => ?_
  subst eo e4
  have I5 : Inv X pins σ H4 { s4 with heap := s4.heap.push { cls := .type "slice", data := .fields #[vl, vu, vs] } } := I4.kept (t' := s4.toks) fun b ob q => Heap.get?_push_of_some _ q
  obtain ⟨its, r, ht, hz⟩ := I5.tuple hx
  have hlen := r.length
  cases pl
  cases pu
  cases ps
  show wpAny (model X.prog X.w) X.A (subscriptTail e (.Slice none none (some (.UnaryOp .USub (.Constant (.int 1) k p1) p2)) p3) (.ref a) (.ref s4.heap.objs.size)) (EP X pins σ Q) X.xe _
  refine tail_any (ops := [.ref a, .ref s4.heap.objs.size]) ht.typeIs (PyProof.Rows.slot_tuple_getitem.lookup) ?_ (by with_unfolding_all rfl)
  refine getItem_tup_back ht (Heap.IsSliceOf.new _ _ _ _) (by rw [List.size_toArray]; omega) ?_
  refine ⟨.ref _, _, I5.laid (t' := s4.toks) (o := .tup xs.reverse) (fun b ob q => Heap.get?_push_of_some _ q) (Nat.le_refl _) ?_, rfl, q _ (I5.hok.fresh (Nat.le_refl _))⟩
  exact ⟨by rw [List.length_reverse]; exact hz, _, r.reverse, IsTup.new _ _⟩
end

/-! ### t * n, n one or more -/
section
variable {X : Cx}
theorem tuple_mul1 (l : Addr) (items : Array Value) (n : Nat) (dd : Option Addr) (sl : Array (Option Value)) (u : Tok) :
    Meets (Builtin.«tuple.__mul__» ⟨[.ref l, .int 1 u], []⟩) (fun _ R s => s.heap.get? l = some { cls := .type "tuple", dict := dd, data := .seq items n, slots := sl } ∧ R (.ok (.ret (Value.ref l))) s) :=
  .of_wp fun prog w A R s h => by
    obtain ⟨hp, g, d, tk, os⟩ := s
    obtain ⟨hl, h⟩ := h
    have f1 := AutoSeq1.idx_int
    have f2 := AutoSeq1.sub_tuple_tuple
    wp_walk using wpAny_loadPart' hl
    exact ⟨_, rfl, h⟩
def rRep1 (K : PySem.W.Frag) : R2 := fun x y H Q => ∃ l xs, x = .ref l ∧ y = .int 1 ∧ SqT K H l xs ∧ Q (.ref l) H
theorem op_rep1 : OpR X (binaryOp .Mult) (rRep1 X.K) := by
  intro pins s σ H x y v u Q I rx ry h
  obtain ⟨l, xs, rfl, rfl, hT, q⟩ := h
  cases rx
  obtain ⟨t, rfl⟩ := ry
  obtain ⟨its, r, ⟨⟨cls, dd, data, sl⟩, ho, hc, n, hd⟩, hs⟩ := I.tuple hT
  simp only at hc hd
  subst hc hd
  exact wpAny_binaryOp_repeat_ref (T := "tuple") (U := "int") (by decide) ⟨_, ho, rfl⟩ (fun s' => typeIs_int s' 1 t) noFill_tuple_mul F.fills_int_mul F.slot_int_rmul repeat_tuple F.slot_int_index.lookup
    (call_meets F.slot_int_rmul (typeIs_int s 1 t) F.entry_int_rmul (F.args_int_rmul_2 _ _) (int_rmul_tuple 1 t l its.toArray n dd sl)
      ⟨ho, rfl, ⟨_, ho, rfl⟩, call_meets F.slot_tuple_mul ⟨_, ho, rfl⟩ F.entry_tuple_mul (F.args_tuple_mul_2 _ _) (tuple_mul1 l its.toArray n dd sl t) ⟨ho, .ref l, H, I, rfl, q⟩⟩)
theorem op_repT2 : OpR X (binaryOp .Mult) (fun x y H Q => rRepT X.K x y H Q ∨ rRep1 X.K x y H Q) := OpR.or op_repT op_rep1
end
end K20

/-! The text by places, its facts by names, how a def is called; heaps, data, comprehensions. -/
namespace K20
open PySem PySem.Spec PyProof.Rows L2

/-! ### the text -/
def top (i : Nat) : Stmt := PySem.Challenge.pw_fourstrokes_k20_whole_passes_and_stands.main.body.getD i (.Pass ⟨0, 0, 0, 0⟩)
def dd (x : Str) (st : Stmt) : He.DefD := ⟨(x, none), x, x, defArgs st, defBody st, defScope st, [], []⟩
abbrev sInit : Stmt := inClass (top 20) 0
def dInit : He.DefD := ⟨("Boxes", some "__init__"), "__init__", "Boxes.__init__", defArgs sInit, defBody sInit, defScope sInit, [], []⟩
def fn0 : List He.DefD := [dd "is_integer" (top 9), dd "is_within" (top 10), dd "is_below" (top 11), dd "is_pair" (top 12), dd "is_sized" (top 13), dd "are_integers" (top 14), dd "is_order" (top 15), dd "is_size" (top 19), dd "are_places" (top 21), dd "meet" (top 22), dd "in_row" (top 23), dd "in_column" (top 24)]
def fn1 : List He.DefD := [dd "overlap" (top 25), dd "all_overlaps" (top 26), dd "is_shown" (top 27), dd "check_picture" (top 28), dd "is_word" (top 32), dd "is_stroke" (top 33), dd "behind" (top 34), dd "beside" (top 35), dd "gap" (top 36), dd "is_let" (top 37), dd "is_form" (top 40), dd "run_of" (top 41)]
def fn2 : List He.DefD := [dd "check_script" (top 42), dd "led" (top 43), dd "is_script" (top 44), dd "is_width" (top 47), dd "check_width" (top 48), dd "check_list" (top 50), dd "check_lists" (top 51), dd "places_listed" (top 52), dd "listed" (top 53), dd "spots" (top 54), dd "turned_ahead" (top 55), dd "heaviest" (top 56)]
def fn3 : List He.DefD := [dd "widths" (top 57), dd "may_pass" (top 58), dd "can_pass" (top 59), dd "lefts_for" (top 60), dd "are_inside" (top 61), dd "stand" (top 62), dd "is_stand" (top 63), dd "are_apart" (top 64), dd "_law_draw" (top 66), dd "_law_deep" (top 67), dd "_law_hand" (top 68), dd "_law_sizes" (top 69)]
def fn4 : List He.DefD := [dd "_law_width" (top 70), dd "_law_shuffled" (top 71), dd "_law_order" (top 72), dd "_law_turned" (top 73), dd "_law_weightiest" (top 74), dd "_law_flag" (top 75), dd "_law_whole" (top 76), dd "_law_is_stand" (top 77), dd "_law_some_stand" (top 78), dd "_law_bent" (top 79), dd "_law_strokes_right" (top 80), dd "law" (top 81)]
def fn : List He.DefD := fn0 ++ (fn1 ++ (fn2 ++ (fn3 ++ (fn4 ++ [dInit]))))
def fa0 : List He.Fa := [.glo "is_integer", .glo "is_within", .glo "is_below", .glo "is_pair", .glo "is_sized", .glo "are_integers", .glo "is_order", .glo "is_size", .glo "are_places", .glo "meet", .glo "in_row", .glo "in_column"]
def fa1 : List He.Fa := [.glo "overlap", .glo "all_overlaps", .glo "is_shown", .glo "check_picture", .glo "is_word", .glo "is_stroke", .glo "behind", .glo "beside", .glo "gap", .glo "is_let", .glo "is_form", .glo "run_of"]
def fa2 : List He.Fa := [.glo "check_script", .glo "led", .glo "is_script", .glo "is_width", .glo "check_width", .glo "check_list", .glo "check_lists", .glo "places_listed", .glo "listed", .glo "spots", .glo "turned_ahead", .glo "heaviest"]
def fa3 : List He.Fa := [.glo "widths", .glo "may_pass", .glo "can_pass", .glo "lefts_for", .glo "are_inside", .glo "stand", .glo "is_stand", .glo "are_apart", .glo "_law_draw", .glo "_law_deep", .glo "_law_hand", .glo "_law_sizes"]
def fa4 : List He.Fa := [.glo "_law_width", .glo "_law_shuffled", .glo "_law_order", .glo "_law_turned", .glo "_law_weightiest", .glo "_law_flag", .glo "_law_whole", .glo "_law_is_stand", .glo "_law_some_stand", .glo "_law_bent", .glo "_law_strokes_right", .glo "law"]
def fa5 : List He.Fa := [.free "abs", .free "all", .free "bool", .free "enumerate", .free "int", .free "isinstance", .free "len", .free "list", .free "max", .free "range", .free "sorted", .free "str"]
def fa6 : List He.Fa := [.free "sum", .free "tuple", .free "zip", .int "MOST_BOXES" 40, .int "MOST_SIZE" 1000, .int "MOST_STROKES" 200, .int "MOST_WIDTH" 1000000, .str "LEVEL" "level", .str "UPRIGHT" "upright", .glo "Boxes", .cls "Boxes", .noat "Boxes" "sizes"]
def fa7 : List He.Fa := [.noat "Boxes" "many", .mkr "Boxes"]
def fa : List He.Fa := fa0 ++ (fa1 ++ (fa2 ++ (fa3 ++ (fa4 ++ (fa5 ++ (fa6 ++ (fa7)))))))

/-! ### what the top has written, by names -/
structure Tx (K : PySem.W.Frag) (mg : Str → Option Value) : Prop where
  says : He.SaysD fa fn K
  glo : ∀ x, (He.Fa.glo x).ok K = true → mg x = some (.ref (He.ga K x))
  free : ∀ x, (He.Fa.free x).ok K = true → mg x = none
  int : ∀ x i, (He.Fa.int x i).ok K = true → ∃ t, mg x = some (.int i t)
  str : ∀ x z, (He.Fa.str x z).ok K = true → ∃ t, mg x = some (.str z t)
theorem Tx.mk' {K : PySem.W.Frag} {mg : Str → Option Value} {h : Heap} (X : K.In h) (G : h.Ns mainGlobals mg) (c : He.SaysD fa fn K) : Tx K mg :=
  ⟨c, fun _ q => He.glo_ok X G q, fun _ q => He.free_ok X G q, fun _ _ q => He.int_ok X G q, fun _ _ q => He.str_ok X G q⟩
section
variable {K : PySem.W.Frag} {mg : Str → Option Value}
theorem Tx.f_abs (T : Tx K mg) : mg "abs" = none := T.free _ (T.says.fact 60 (f := .free "abs") rfl)
theorem Tx.f_all (T : Tx K mg) : mg "all" = none := T.free _ (T.says.fact 61 (f := .free "all") rfl)
theorem Tx.f_bool (T : Tx K mg) : mg "bool" = none := T.free _ (T.says.fact 62 (f := .free "bool") rfl)
theorem Tx.f_enumerate (T : Tx K mg) : mg "enumerate" = none := T.free _ (T.says.fact 63 (f := .free "enumerate") rfl)
theorem Tx.f_int (T : Tx K mg) : mg "int" = none := T.free _ (T.says.fact 64 (f := .free "int") rfl)
theorem Tx.f_isinstance (T : Tx K mg) : mg "isinstance" = none := T.free _ (T.says.fact 65 (f := .free "isinstance") rfl)
theorem Tx.f_len (T : Tx K mg) : mg "len" = none := T.free _ (T.says.fact 66 (f := .free "len") rfl)
theorem Tx.f_list (T : Tx K mg) : mg "list" = none := T.free _ (T.says.fact 67 (f := .free "list") rfl)
theorem Tx.f_max (T : Tx K mg) : mg "max" = none := T.free _ (T.says.fact 68 (f := .free "max") rfl)
theorem Tx.f_range (T : Tx K mg) : mg "range" = none := T.free _ (T.says.fact 69 (f := .free "range") rfl)
theorem Tx.f_sorted (T : Tx K mg) : mg "sorted" = none := T.free _ (T.says.fact 70 (f := .free "sorted") rfl)
theorem Tx.f_str (T : Tx K mg) : mg "str" = none := T.free _ (T.says.fact 71 (f := .free "str") rfl)
theorem Tx.f_sum (T : Tx K mg) : mg "sum" = none := T.free _ (T.says.fact 72 (f := .free "sum") rfl)
theorem Tx.f_tuple (T : Tx K mg) : mg "tuple" = none := T.free _ (T.says.fact 73 (f := .free "tuple") rfl)
theorem Tx.f_zip (T : Tx K mg) : mg "zip" = none := T.free _ (T.says.fact 74 (f := .free "zip") rfl)
theorem Tx.c_MOST_BOXES (T : Tx K mg) : ∃ t, mg "MOST_BOXES" = some (.int 40 t) := T.int _ _ (T.says.fact 75 (f := .int "MOST_BOXES" 40) rfl)
theorem Tx.c_MOST_SIZE (T : Tx K mg) : ∃ t, mg "MOST_SIZE" = some (.int 1000 t) := T.int _ _ (T.says.fact 76 (f := .int "MOST_SIZE" 1000) rfl)
theorem Tx.c_MOST_STROKES (T : Tx K mg) : ∃ t, mg "MOST_STROKES" = some (.int 200 t) := T.int _ _ (T.says.fact 77 (f := .int "MOST_STROKES" 200) rfl)
theorem Tx.c_MOST_WIDTH (T : Tx K mg) : ∃ t, mg "MOST_WIDTH" = some (.int 1000000 t) := T.int _ _ (T.says.fact 78 (f := .int "MOST_WIDTH" 1000000) rfl)
theorem Tx.c_LEVEL (T : Tx K mg) : ∃ t, mg "LEVEL" = some (.str "level" t) := T.str _ _ (T.says.fact 79 (f := .str "LEVEL" "level") rfl)
theorem Tx.c_UPRIGHT (T : Tx K mg) : ∃ t, mg "UPRIGHT" = some (.str "upright" t) := T.str _ _ (T.says.fact 80 (f := .str "UPRIGHT" "upright") rfl)
abbrev cB (K : PySem.W.Frag) : Addr := He.ga K "Boxes"
theorem Tx.gB (T : Tx K mg) : mg "Boxes" = some (.ref (cB K)) := T.glo _ (T.says.fact 81 (f := .glo "Boxes") rfl)
theorem Tx.clB (T : Tx K mg) : Cls K (cB K) := He.cls_ok (T.says.fact 82 (f := .cls "Boxes") rfl)
theorem Tx.nS (T : Tx K mg) : NoAttr K (cB K) "sizes" := He.noat_ok (T.says.fact 83 (f := .noat "Boxes" "sizes") rfl)
theorem Tx.nM (T : Tx K mg) : NoAttr K (cB K) "many" := He.noat_ok (T.says.fact 84 (f := .noat "Boxes" "many") rfl)
theorem Tx.mkB (T : Tx K mg) : Mk K (cB K) (He.ma K (cB K) "__init__") := He.mkr_ok (T.says.fact 85 (f := .mkr "Boxes") rfl)
theorem Tx.init (T : Tx K mg) : ∃ fd, FunD K "__init__" "Boxes.__init__" (defArgs sInit) (defBody sInit) (defScope sInit) [] [] (He.ma K (cB K) "__init__") fd := T.says.def_ 60 (d := dInit) rfl
/-- a def of the text, as it stands -/
def TxF (K : PySem.W.Frag) (mg : Str → Option Value) (x : Str) (st : Stmt) : Prop :=
  mg x = some (.ref (He.ga K x)) ∧ ∃ fd, FunD K x x (defArgs st) (defBody st) (defScope st) [] [] (He.ga K x) fd
theorem Tx.fnx (T : Tx K mg) (i : Nat) {x : Str} {st : Stmt} (h : fn[i]? = some (dd x st) := by rfl) (g : fa[i]? = some (.glo x) := by rfl) : TxF K mg x st :=
  ⟨T.glo _ (T.says.fact i (f := .glo x) g), T.says.def_ i (d := dd x st) h⟩
end
theorem Tx.t_is_integer {K : PySem.W.Frag} {mg : Str → Option Value} (T : Tx K mg) : TxF K mg "is_integer" (top 9) := T.fnx 0 (x := "is_integer") (st := top 9) rfl rfl
theorem Tx.t_is_within {K : PySem.W.Frag} {mg : Str → Option Value} (T : Tx K mg) : TxF K mg "is_within" (top 10) := T.fnx 1 (x := "is_within") (st := top 10) rfl rfl
theorem Tx.t_is_below {K : PySem.W.Frag} {mg : Str → Option Value} (T : Tx K mg) : TxF K mg "is_below" (top 11) := T.fnx 2 (x := "is_below") (st := top 11) rfl rfl
theorem Tx.t_is_pair {K : PySem.W.Frag} {mg : Str → Option Value} (T : Tx K mg) : TxF K mg "is_pair" (top 12) := T.fnx 3 (x := "is_pair") (st := top 12) rfl rfl
theorem Tx.t_is_sized {K : PySem.W.Frag} {mg : Str → Option Value} (T : Tx K mg) : TxF K mg "is_sized" (top 13) := T.fnx 4 (x := "is_sized") (st := top 13) rfl rfl
theorem Tx.t_are_integers {K : PySem.W.Frag} {mg : Str → Option Value} (T : Tx K mg) : TxF K mg "are_integers" (top 14) := T.fnx 5 (x := "are_integers") (st := top 14) rfl rfl
theorem Tx.t_is_order {K : PySem.W.Frag} {mg : Str → Option Value} (T : Tx K mg) : TxF K mg "is_order" (top 15) := T.fnx 6 (x := "is_order") (st := top 15) rfl rfl
theorem Tx.t_is_size {K : PySem.W.Frag} {mg : Str → Option Value} (T : Tx K mg) : TxF K mg "is_size" (top 19) := T.fnx 7 (x := "is_size") (st := top 19) rfl rfl
theorem Tx.t_are_places {K : PySem.W.Frag} {mg : Str → Option Value} (T : Tx K mg) : TxF K mg "are_places" (top 21) := T.fnx 8 (x := "are_places") (st := top 21) rfl rfl
theorem Tx.t_meet {K : PySem.W.Frag} {mg : Str → Option Value} (T : Tx K mg) : TxF K mg "meet" (top 22) := T.fnx 9 (x := "meet") (st := top 22) rfl rfl
theorem Tx.t_in_row {K : PySem.W.Frag} {mg : Str → Option Value} (T : Tx K mg) : TxF K mg "in_row" (top 23) := T.fnx 10 (x := "in_row") (st := top 23) rfl rfl
theorem Tx.t_in_column {K : PySem.W.Frag} {mg : Str → Option Value} (T : Tx K mg) : TxF K mg "in_column" (top 24) := T.fnx 11 (x := "in_column") (st := top 24) rfl rfl
theorem Tx.t_overlap {K : PySem.W.Frag} {mg : Str → Option Value} (T : Tx K mg) : TxF K mg "overlap" (top 25) := T.fnx 12 (x := "overlap") (st := top 25) rfl rfl
theorem Tx.t_all_overlaps {K : PySem.W.Frag} {mg : Str → Option Value} (T : Tx K mg) : TxF K mg "all_overlaps" (top 26) := T.fnx 13 (x := "all_overlaps") (st := top 26) rfl rfl
theorem Tx.t_is_shown {K : PySem.W.Frag} {mg : Str → Option Value} (T : Tx K mg) : TxF K mg "is_shown" (top 27) := T.fnx 14 (x := "is_shown") (st := top 27) rfl rfl
theorem Tx.t_check_picture {K : PySem.W.Frag} {mg : Str → Option Value} (T : Tx K mg) : TxF K mg "check_picture" (top 28) := T.fnx 15 (x := "check_picture") (st := top 28) rfl rfl
theorem Tx.t_is_word {K : PySem.W.Frag} {mg : Str → Option Value} (T : Tx K mg) : TxF K mg "is_word" (top 32) := T.fnx 16 (x := "is_word") (st := top 32) rfl rfl
theorem Tx.t_is_stroke {K : PySem.W.Frag} {mg : Str → Option Value} (T : Tx K mg) : TxF K mg "is_stroke" (top 33) := T.fnx 17 (x := "is_stroke") (st := top 33) rfl rfl
theorem Tx.t_behind {K : PySem.W.Frag} {mg : Str → Option Value} (T : Tx K mg) : TxF K mg "behind" (top 34) := T.fnx 18 (x := "behind") (st := top 34) rfl rfl
theorem Tx.t_beside {K : PySem.W.Frag} {mg : Str → Option Value} (T : Tx K mg) : TxF K mg "beside" (top 35) := T.fnx 19 (x := "beside") (st := top 35) rfl rfl
theorem Tx.t_gap {K : PySem.W.Frag} {mg : Str → Option Value} (T : Tx K mg) : TxF K mg "gap" (top 36) := T.fnx 20 (x := "gap") (st := top 36) rfl rfl
theorem Tx.t_is_let {K : PySem.W.Frag} {mg : Str → Option Value} (T : Tx K mg) : TxF K mg "is_let" (top 37) := T.fnx 21 (x := "is_let") (st := top 37) rfl rfl
theorem Tx.t_is_form {K : PySem.W.Frag} {mg : Str → Option Value} (T : Tx K mg) : TxF K mg "is_form" (top 40) := T.fnx 22 (x := "is_form") (st := top 40) rfl rfl
theorem Tx.t_run_of {K : PySem.W.Frag} {mg : Str → Option Value} (T : Tx K mg) : TxF K mg "run_of" (top 41) := T.fnx 23 (x := "run_of") (st := top 41) rfl rfl
theorem Tx.t_check_script {K : PySem.W.Frag} {mg : Str → Option Value} (T : Tx K mg) : TxF K mg "check_script" (top 42) := T.fnx 24 (x := "check_script") (st := top 42) rfl rfl
theorem Tx.t_led {K : PySem.W.Frag} {mg : Str → Option Value} (T : Tx K mg) : TxF K mg "led" (top 43) := T.fnx 25 (x := "led") (st := top 43) rfl rfl
theorem Tx.t_is_script {K : PySem.W.Frag} {mg : Str → Option Value} (T : Tx K mg) : TxF K mg "is_script" (top 44) := T.fnx 26 (x := "is_script") (st := top 44) rfl rfl
theorem Tx.t_is_width {K : PySem.W.Frag} {mg : Str → Option Value} (T : Tx K mg) : TxF K mg "is_width" (top 47) := T.fnx 27 (x := "is_width") (st := top 47) rfl rfl
theorem Tx.t_check_width {K : PySem.W.Frag} {mg : Str → Option Value} (T : Tx K mg) : TxF K mg "check_width" (top 48) := T.fnx 28 (x := "check_width") (st := top 48) rfl rfl
theorem Tx.t_check_list {K : PySem.W.Frag} {mg : Str → Option Value} (T : Tx K mg) : TxF K mg "check_list" (top 50) := T.fnx 29 (x := "check_list") (st := top 50) rfl rfl
theorem Tx.t_check_lists {K : PySem.W.Frag} {mg : Str → Option Value} (T : Tx K mg) : TxF K mg "check_lists" (top 51) := T.fnx 30 (x := "check_lists") (st := top 51) rfl rfl
theorem Tx.t_places_listed {K : PySem.W.Frag} {mg : Str → Option Value} (T : Tx K mg) : TxF K mg "places_listed" (top 52) := T.fnx 31 (x := "places_listed") (st := top 52) rfl rfl
theorem Tx.t_listed {K : PySem.W.Frag} {mg : Str → Option Value} (T : Tx K mg) : TxF K mg "listed" (top 53) := T.fnx 32 (x := "listed") (st := top 53) rfl rfl
theorem Tx.t_spots {K : PySem.W.Frag} {mg : Str → Option Value} (T : Tx K mg) : TxF K mg "spots" (top 54) := T.fnx 33 (x := "spots") (st := top 54) rfl rfl
theorem Tx.t_turned_ahead {K : PySem.W.Frag} {mg : Str → Option Value} (T : Tx K mg) : TxF K mg "turned_ahead" (top 55) := T.fnx 34 (x := "turned_ahead") (st := top 55) rfl rfl
theorem Tx.t_heaviest {K : PySem.W.Frag} {mg : Str → Option Value} (T : Tx K mg) : TxF K mg "heaviest" (top 56) := T.fnx 35 (x := "heaviest") (st := top 56) rfl rfl
theorem Tx.t_widths {K : PySem.W.Frag} {mg : Str → Option Value} (T : Tx K mg) : TxF K mg "widths" (top 57) := T.fnx 36 (x := "widths") (st := top 57) rfl rfl
theorem Tx.t_may_pass {K : PySem.W.Frag} {mg : Str → Option Value} (T : Tx K mg) : TxF K mg "may_pass" (top 58) := T.fnx 37 (x := "may_pass") (st := top 58) rfl rfl
theorem Tx.t_can_pass {K : PySem.W.Frag} {mg : Str → Option Value} (T : Tx K mg) : TxF K mg "can_pass" (top 59) := T.fnx 38 (x := "can_pass") (st := top 59) rfl rfl
theorem Tx.t_lefts_for {K : PySem.W.Frag} {mg : Str → Option Value} (T : Tx K mg) : TxF K mg "lefts_for" (top 60) := T.fnx 39 (x := "lefts_for") (st := top 60) rfl rfl
theorem Tx.t_are_inside {K : PySem.W.Frag} {mg : Str → Option Value} (T : Tx K mg) : TxF K mg "are_inside" (top 61) := T.fnx 40 (x := "are_inside") (st := top 61) rfl rfl
theorem Tx.t_stand {K : PySem.W.Frag} {mg : Str → Option Value} (T : Tx K mg) : TxF K mg "stand" (top 62) := T.fnx 41 (x := "stand") (st := top 62) rfl rfl
theorem Tx.t_is_stand {K : PySem.W.Frag} {mg : Str → Option Value} (T : Tx K mg) : TxF K mg "is_stand" (top 63) := T.fnx 42 (x := "is_stand") (st := top 63) rfl rfl
theorem Tx.t_are_apart {K : PySem.W.Frag} {mg : Str → Option Value} (T : Tx K mg) : TxF K mg "are_apart" (top 64) := T.fnx 43 (x := "are_apart") (st := top 64) rfl rfl
theorem Tx.t__law_draw {K : PySem.W.Frag} {mg : Str → Option Value} (T : Tx K mg) : TxF K mg "_law_draw" (top 66) := T.fnx 44 (x := "_law_draw") (st := top 66) rfl rfl
theorem Tx.t__law_deep {K : PySem.W.Frag} {mg : Str → Option Value} (T : Tx K mg) : TxF K mg "_law_deep" (top 67) := T.fnx 45 (x := "_law_deep") (st := top 67) rfl rfl
theorem Tx.t__law_hand {K : PySem.W.Frag} {mg : Str → Option Value} (T : Tx K mg) : TxF K mg "_law_hand" (top 68) := T.fnx 46 (x := "_law_hand") (st := top 68) rfl rfl
theorem Tx.t__law_sizes {K : PySem.W.Frag} {mg : Str → Option Value} (T : Tx K mg) : TxF K mg "_law_sizes" (top 69) := T.fnx 47 (x := "_law_sizes") (st := top 69) rfl rfl
theorem Tx.t__law_width {K : PySem.W.Frag} {mg : Str → Option Value} (T : Tx K mg) : TxF K mg "_law_width" (top 70) := T.fnx 48 (x := "_law_width") (st := top 70) rfl rfl
theorem Tx.t__law_shuffled {K : PySem.W.Frag} {mg : Str → Option Value} (T : Tx K mg) : TxF K mg "_law_shuffled" (top 71) := T.fnx 49 (x := "_law_shuffled") (st := top 71) rfl rfl
theorem Tx.t__law_order {K : PySem.W.Frag} {mg : Str → Option Value} (T : Tx K mg) : TxF K mg "_law_order" (top 72) := T.fnx 50 (x := "_law_order") (st := top 72) rfl rfl
theorem Tx.t__law_turned {K : PySem.W.Frag} {mg : Str → Option Value} (T : Tx K mg) : TxF K mg "_law_turned" (top 73) := T.fnx 51 (x := "_law_turned") (st := top 73) rfl rfl
theorem Tx.t__law_weightiest {K : PySem.W.Frag} {mg : Str → Option Value} (T : Tx K mg) : TxF K mg "_law_weightiest" (top 74) := T.fnx 52 (x := "_law_weightiest") (st := top 74) rfl rfl
theorem Tx.t__law_flag {K : PySem.W.Frag} {mg : Str → Option Value} (T : Tx K mg) : TxF K mg "_law_flag" (top 75) := T.fnx 53 (x := "_law_flag") (st := top 75) rfl rfl
theorem Tx.t__law_whole {K : PySem.W.Frag} {mg : Str → Option Value} (T : Tx K mg) : TxF K mg "_law_whole" (top 76) := T.fnx 54 (x := "_law_whole") (st := top 76) rfl rfl
theorem Tx.t__law_is_stand {K : PySem.W.Frag} {mg : Str → Option Value} (T : Tx K mg) : TxF K mg "_law_is_stand" (top 77) := T.fnx 55 (x := "_law_is_stand") (st := top 77) rfl rfl
theorem Tx.t__law_some_stand {K : PySem.W.Frag} {mg : Str → Option Value} (T : Tx K mg) : TxF K mg "_law_some_stand" (top 78) := T.fnx 56 (x := "_law_some_stand") (st := top 78) rfl rfl
theorem Tx.t__law_bent {K : PySem.W.Frag} {mg : Str → Option Value} (T : Tx K mg) : TxF K mg "_law_bent" (top 79) := T.fnx 57 (x := "_law_bent") (st := top 79) rfl rfl
theorem Tx.t__law_strokes_right {K : PySem.W.Frag} {mg : Str → Option Value} (T : Tx K mg) : TxF K mg "_law_strokes_right" (top 80) := T.fnx 58 (x := "_law_strokes_right") (st := top 80) rfl rfl
theorem Tx.t_law {K : PySem.W.Frag} {mg : Str → Option Value} (T : Tx K mg) : TxF K mg "law" (top 81) := T.fnx 59 (x := "law") (st := top 81) rfl rfl

/-! ### built-in names -/
theorem b_abs : bootBuiltins "abs" = some (.builtin "abs") := by decide +kernel
theorem b_all : bootBuiltins "all" = some (.builtin "all") := by decide +kernel
theorem b_bool : bootBuiltins "bool" = some (.type "bool") := by decide +kernel
theorem b_enumerate : bootBuiltins "enumerate" = some (.type "enumerate") := by decide +kernel
theorem b_int : bootBuiltins "int" = some (.type "int") := by decide +kernel
theorem b_isinstance : bootBuiltins "isinstance" = some (.builtin "isinstance") := by decide +kernel
theorem b_len : bootBuiltins "len" = some (.builtin "len") := by decide +kernel
theorem b_list : bootBuiltins "list" = some (.type "list") := by decide +kernel
theorem b_max : bootBuiltins "max" = some (.builtin "max") := by decide +kernel
theorem b_range : bootBuiltins "range" = some (.type "range") := by decide +kernel
theorem b_sorted : bootBuiltins "sorted" = some (.builtin "sorted") := by decide +kernel
theorem b_str : bootBuiltins "str" = some (.type "str") := by decide +kernel
theorem b_sum : bootBuiltins "sum" = some (.builtin "sum") := by decide +kernel
theorem b_tuple : bootBuiltins "tuple" = some (.type "tuple") := by decide +kernel
theorem b_zip : bootBuiltins "zip" = some (.type "zip") := by decide +kernel

/-! ### a def called by its name -/
/-- the def x keeps the promise sp wherever k rooms are left -/
def Fn (P : Program) (w : World) (K : PySem.W.Frag) (mg : Str → Option Value) (base : Heap) (x : Str) (k : Nat) (ps : List Str) (sp : Sp) : Prop :=
  ∃ f fd, mg x = some (.ref f) ∧ PySem.W.keepIn K (.ref f) = true ∧ Binds K fd ps [] ∧ FnOk P w K mg base CX0 k f fd ps sp
section
variable {X : Cx} {x : Str} {e : Expr} {es : List Expr} {p pos : Pos} {t : TA}
theorem cl {k : Nat} {ps : List Str} {sp : Sp} (F : Fn X.prog X.w X.K X.mg X.base x k ps sp) (hr : Room k X.A) (hg : Gl X x) (ha : PA X (e :: es) t)
    (hd : (x == ("__debug__" : Str)) = false := by decide) (hs : starEach (e :: es) X.env = (false, eval e X.env) :: starEach es X.env := by rfl) (hpl : (backTo pos (starEach es X.env)).any (·.1) = false := by rfl) : PE X (.Call (.Name x p) (e :: es) [] pos) (tCall sp [] E0 t) := by
  obtain ⟨f, fd, hm, hk, hb, hF⟩ := F
  exact pe_call hF hr hg hm hk hb .nil pass0 ha (hdb := hd) (he := hs) (hpl := hpl)
theorem pe_gi {i : Int} (hg : Gl X x) (h : ∃ t, X.mg x = some (.int i t)) (hd : (x == ("__debug__" : Str)) = false := by decide) : PE X (.Name x pos) (tC (.int i)) := by
  obtain ⟨t, h⟩ := h
  exact pe_glob hg h ⟨t, rfl⟩ hd
theorem pe_gs {z : Str} (hg : Gl X x) (h : ∃ t, X.mg x = some (.str z t)) (hd : (x == ("__debug__" : Str)) = false := by decide) : PE X (.Name x pos) (tC (.str z)) := by
  obtain ⟨t, h⟩ := h
  exact pe_glob hg h ⟨t, rfl⟩ hd
theorem pe_ty {n : String} (hg : Gl X x) (hm : X.mg x = none) (hv : bootBuiltins x = some (.type n)) (hn : x ≠ "__name__" := by decide) (hd : (x == ("__debug__" : Str)) = false := by decide) : PE X (.Name x pos) (tC (.ty n)) :=
  pe_bltn hg hm hv rfl hn hd
end
section
variable {P : Program} {w : World} {K : PySem.W.Frag} {mg : Str → Option Value} {base : Heap}
/-- THE RULE: a def of the text keeps its promise, by its body -/
theorem mkFn {x : Str} {st : Stmt} {N ps : List Str} {k : Nat} {sp : Sp} (F : TxF K mg x st) (S : FnScope N ps (defScope st)) (len : ∀ vs H Q E, sp vs H Q E → vs.length = ps.length)
    (hb : ∀ (kV doc pm : Value) (an : Option Addr) (cdv ct : Value) (us : List Value), us.length = ps.length → bindArgs (PySem.W.fnOf x x (defArgs st) (defBody st) (defScope st) .none kV doc pm an cdv ct) ⟨us, []⟩ = pure (ps.zip us))
    (body : ∀ (f : Addr) (cdv : Value) (A : Around) (outer : List Env) (s : Shared) (H : Hp) (vs : List V) (Q : VK) (E : XK), Room k (A.deeper (envOfC x (defScope st) s.heap.objs.size f cdv)) → sp vs H Q E →
      ∃ t, PSs (cxOf CX0 P w K mg base N x (defScope st) f cdv A outer s H E).nox (defBody st) t ∧ t { nx := fun _ H' => Q .non H', rt := Q } (start N vs) H) : Fn P w K mg base x (k + 1) ps sp := by
  obtain ⟨hm, fd, F⟩ := F
  refine ⟨_, fd, hm, F.kp, F.bindsN hb, F.ok S len fun cdv A outer s H vs Q E hr h => ?_⟩
  obtain ⟨t, h1, h2⟩ := body _ cdv A outer s H vs Q E hr h
  exact ⟨t, PSs.nox h1, h2⟩
/-- .. of a function object that is known -/
theorem mkFnX {x : Str} {st : Stmt} {N ps : List Str} {k : Nat} {sp : Sp} {g : Addr} {fd : FuncData} (F : FunD K x x (defArgs st) (defBody st) (defScope st) [] [] g fd) (S : FnScope N ps (defScope st)) (len : ∀ vs H Q E, sp vs H Q E → vs.length = ps.length)
    (body : ∀ (f : Addr) (cdv : Value) (A : Around) (outer : List Env) (s : Shared) (H : Hp) (vs : List V) (Q : VK) (E : XK), Room k (A.deeper (envOfC x (defScope st) s.heap.objs.size f cdv)) → sp vs H Q E →
      ∃ t, PSs (cxOf CX0 P w K mg base N x (defScope st) f cdv A outer s H E).nox (defBody st) t ∧ t { nx := fun _ H' => Q .non H', rt := Q } (start N vs) H) : FnOk P w K mg base CX0 (k + 1) g fd ps sp := by
  refine F.ok S len fun cdv A outer s H vs Q E hr h => ?_
  obtain ⟨t, h1, h2⟩ := body _ cdv A outer s H vs Q E hr h
  exact ⟨t, PSs.nox h1, h2⟩
end

/-! ### rules with K told (within comprehensions) -/
def rLen (K : PySem.W.Frag) : List V → Hp → VK → Prop := fun xs H Q => ∃ p ys, xs = [.ref p] ∧ (SqL K H p ys ∨ SqT K H p ys) ∧ Q (.int ys.length) H
def rListOf (K : PySem.W.Frag) : List V → Hp → VK → Prop := fun xs H Q => ∃ p ys, xs = [.ref p] ∧ (SqL K H p ys ∨ SqT K H p ys) ∧ ∀ l, H l = none → Q (.ref l) (upd H l (.lst ys))
def rTupOf (K : PySem.W.Frag) : List V → Hp → VK → Prop := fun xs H Q => ∃ p ys, xs = [.ref p] ∧ ((SqL K H p ys ∧ ∀ l, H l = none → Q (.ref l) (upd H l (.tup ys))) ∨ (SqT K H p ys ∧ Q (.ref p) H))
section
variable {X : Cx} {K : PySem.W.Frag}
theorem k_ixL (h : X.K = K) : IxR X (rIxL K) := h ▸ ix_list
theorem k_ixT (h : X.K = K) : IxR X (rIxT K) := h ▸ ix_tup
theorem k_slL (h : X.K = K) : SlR X (rSlL K) := h ▸ sl_list
theorem k_slT (h : X.K = K) : SlR X (rSlT K) := h ▸ sl_tup
theorem k_len (h : X.K = K) : CallR X (.builtin "len") (rLen K) := h ▸ call_len_seq
theorem k_isi (h : X.K = K) : CallR X (.builtin "isinstance") (rIsi K) := h ▸ call_isi
theorem k_all (h : X.K = K) (hc : X.calm = true) : CallR X (.builtin "all") (rAll K) := h ▸ cr_all hc
theorem k_max (h : X.K = K) (hc : X.calm = true) : CallR X (.builtin "max") (rMax K) := h ▸ cr_max hc
theorem k_maxP (h : X.K = K) (hc : X.calm = true) (hu : X.A.units + 64 < cLine) : CallR X (.builtin "max") (rMaxP K) := h ▸ cr_maxP hc hu
theorem k_sum (h : X.K = K) (hc : X.calm = true) : CallR X (.builtin "sum") (rSum K) := h ▸ cr_sum hc
theorem k_sort (h : X.K = K) : CallR X (.builtin "sorted") (rSortT K) := h ▸ cr_sortT
theorem k_list (h : X.K = K) : CallR X (.type "list") (rListOf K) := h ▸ call_list_of
theorem k_tuple (h : X.K = K) : CallR X (.type "tuple") (rTupOf K) := h ▸ call_tuple_of
theorem k_cat (h : X.K = K) : OpR X (binaryOp .Add) (rCatA K) := h ▸ op_catA
theorem k_rep (h : X.K = K) : OpR X (binaryOp .Mult) (fun x y H Q => rRepT K x y H Q ∨ rRep1 K x y H Q) := h ▸ op_repT2
theorem k_in (h : X.K = K) : OpR X (compareOp .In) (rIn K false) := h ▸ op_in_seq
theorem k_inD (h : X.K = K) (hu : X.A.units + 65 < cLine) : OpR X (compareOp .In) (rInD K) := h ▸ op_inD hu
theorem k_eqD (h : X.K = K) (hu : X.A.units + 64 < cLine) : OpR X (compareOp .Eq) (rEqD K) := h ▸ op_eqD hu
theorem k_idx (h : X.K = K) : MtR X "tuple.index" (rIdxT K) := h ▸ mt_idxT
theorem k_pl {tg l : Expr} {tl : TE} (h : X.K = K) (hl : PE X l tl) : PI X tg l (iList K tl) := h ▸ pi_list hl
theorem k_pt {tg l : Expr} {tl : TE} (h : X.K = K) (hl : PE X l tl) : PI X tg l (iTup K tl) := h ▸ pi_tup hl
theorem k_zip {e e2 : Expr} {ta : TA} {p pos tpos : Pos} {elts : List Expr} {kk : Nat} (h : X.K = K) (hg : Gl X "zip") (hm : X.mg "zip" = none) (ha : PA X [e, e2] ta)
    (hs : starEach [e, e2] X.env = (false, eval e X.env) :: starEach [e2] X.env := by rfl) (hpl : (backTo pos (starEach [e2] X.env)).any (·.1) = false := by rfl) : PI X (.Tuple elts kk tpos) (.Call (.Name "zip" p) [e, e2] [] pos) (RZ.iZipA K ta) := h ▸ RZ.pi_zipA hg hm ha hs hpl
theorem k_enum {e : Expr} {ta : TA} {p pos tpos : Pos} {elts : List Expr} {kk : Nat} (h : X.K = K) (hg : Gl X "enumerate") (hm : X.mg "enumerate" = none) (ha : PA X [e] ta) (hs : starEach [e] X.env = [(false, eval e X.env)] := by rfl) :
    PI X (.Tuple elts kk tpos) (.Call (.Name "enumerate" p) [e] [] pos) (iEnumT K ta) := h ▸ pi_enumT hg hm ha hs
theorem k_revL {e : Expr} {te : TE} {k : Nat} {p1 p2 p3 pos : Pos} (h : X.K = K) (he : PE X e te) : PE X (.Subscript e (.Slice none none (some (.UnaryOp .USub (.Constant (.int 1) k p1) p2)) p3) pos) (tRevL K te) := h ▸ pe_revL he
theorem k_revT {e : Expr} {te : TE} {k : Nat} {p1 p2 p3 pos : Pos} (h : X.K = K) (he : PE X e te) : PE X (.Subscript e (.Slice none none (some (.UnaryOp .USub (.Constant (.int 1) k p1) p2)) p3) pos) (tRevT K te) := h ▸ pe_revT he
theorem k_fld {e : Expr} {f : Str} {pos : Pos} {ta : TE} (h : X.K = K) (he : PE X e ta) (hb : attributeBase e f X.env (eval e X.env) = eval e X.env) : PE X (.Attribute e f pos) (tFld K ta f) := h ▸ pe_fld he hb
theorem k_bm {name : Str} {TT : String} {id : String} {r : V → List V → Hp → VK → Prop} {o e : Expr} {es : List Expr} {to : TE} {t : TA} {apos cpos : Pos} (h : X.K = K) (pa : PlainAttrs TT) (slot : Slot TT name id) (hty : typeOf (.builtin id) = pure (.type "method_descriptor")) (hm : MtR X id r) (ho : PE X o to) (ha : PA X (e :: es) t)
    (hbase : attributeBase o name X.env (eval o X.env) = eval o X.env := by rfl)
    (hfew : ((backTo cpos (starEach (e :: es) X.env)).all (fun x => !x.1) && (backToKw cpos (keywordEach [] X.env)).all (fun x => x.1.isSome)
      && decide ((e :: es).length + ([] : List Keyword).length + (if ([] : List Keyword).isEmpty then 0 else 1) < 30)) = true := by rfl)
    (hline : (apos.endLine == cpos.line) = true := by rfl) (hs : starEach (e :: es) X.env = (false, eval e X.env) :: starEach es X.env := by rfl) (hplain : (backTo cpos (starEach es X.env)).any (·.1) = false := by rfl) :
    PE X (.Call (.Attribute o name apos) (e :: es) [] cpos) (tBM K TT r to t) := h ▸ pe_bm pa slot hty hm ho ha hbase hfew hline hs hplain
end

/-! ### heaps: what stands, stands; lists and dicts may be filled, tuples and instances never change -/
def Sk : HO → HO → Prop
  | .lst _, o => ∃ ys, o = .lst ys
  | .dK _, o => ∃ kvs, o = .dK kvs
  | u, o => o = u
def Kp (H H' : Hp) : Prop := ∀ a u, H a = some u → ∃ o, H' a = some o ∧ Sk u o
theorem Sk.refl (u : HO) : Sk u u := by
  cases u <;> first | exact ⟨_, rfl⟩ | exact rfl
theorem Sk.trans {u v o : HO} (a : Sk u v) (b : Sk v o) : Sk u o := by
  cases u <;> first
    | (obtain ⟨ys, e⟩ := a; subst e; exact b)
    | (have e : v = _ := a; subst e; exact b)
theorem Kp.refl (H : Hp) : Kp H H := fun _ u h => ⟨u, h, Sk.refl u⟩
theorem Kp.trans {H H1 H2 : Hp} (a : Kp H H1) (b : Kp H1 H2) : Kp H H2 := fun c u h => by
  obtain ⟨v, h1, s1⟩ := a c u h
  obtain ⟨o, h2, s2⟩ := b c v h1
  exact ⟨o, h2, s1.trans s2⟩
theorem kp {H H' : Hp} (s : Same H H') : Kp H H' := fun c u h => ⟨u, s c u h, Sk.refl u⟩
theorem kpL {H : Hp} {D : Addr} {xs ys : List V} (h : H D = some (.lst xs)) : Kp H (upd H D (.lst ys)) := fun c u hc => by
  by_cases e : c = D
  · subst e
    rw [h] at hc
    cases hc
    exact ⟨_, upd_same, ys, rfl⟩
  · exact ⟨u, by rw [upd_ne e]; exact hc, Sk.refl u⟩
theorem kpD {H : Hp} {D : Addr} {xs ys : List (Key × V)} (h : H D = some (.dK xs)) : Kp H (upd H D (.dK ys)) := fun c u hc => by
  by_cases e : c = D
  · subst e
    rw [h] at hc
    cases hc
    exact ⟨_, upd_same, ys, rfl⟩
  · exact ⟨u, by rw [upd_ne e]; exact hc, Sk.refl u⟩
theorem Kp.tup {H H' : Hp} (k : Kp H H') {a : Addr} {xs : List V} (h : H a = some (.tup xs)) : H' a = some (.tup xs) := by
  obtain ⟨o, h1, s⟩ := k a _ h
  have e : o = .tup xs := s
  rw [h1, e]
theorem Kp.ins {H H' : Hp} (k : Kp H H') {a C dx : Addr} {fs : List (Str × V)} (h : H a = some (.ins C dx fs)) : H' a = some (.ins C dx fs) := by
  obtain ⟨o, h1, s⟩ := k a _ h
  have e : o = .ins C dx fs := s
  rw [h1, e]
theorem Kp.lst {H H' : Hp} (k : Kp H H') {a : Addr} {xs : List V} (h : H a = some (.lst xs)) : ∃ ys, H' a = some (.lst ys) := by
  obtain ⟨o, h1, ys, e⟩ := k a _ h
  exact ⟨ys, by rw [h1, e]⟩
theorem Kp.dK {H H' : Hp} (k : Kp H H') {a : Addr} {xs : List (Key × V)} (h : H a = some (.dK xs)) : ∃ ys, H' a = some (.dK ys) := by
  obtain ⟨o, h1, ys, e⟩ := k a _ h
  exact ⟨ys, by rw [h1, e]⟩
/-- a new object -/
theorem sn {H : Hp} {p : Addr} {o : HO} (h : H p = none) : Same H (upd H p o) := fun a u e => by
  rw [upd_ne (ne_of_none e h)]
  exact e
/-- what H does not know may change -/
theorem same_mut {H H' : Hp} {p : Addr} {o : HO} (s : Same H H') (h : H p = none) : Same H (upd H' p o) := fun a u e => by
  rw [upd_ne (ne_of_none e h)]
  exact s a u e
theorem same_tup {K : PySem.W.Frag} {H H' : Hp} {a : Addr} {xs : List V} (s : Same H H') (h : SqT K H a xs) : SqT K H' a xs := by
  rcases h with (h | ⟨o, h⟩) | h
  · exact .inl (.inl (s _ _ h))
  · exact .inl (.inr ⟨o, s _ _ h⟩)
  · exact .inr h

/-! ### data -/
/-- a tuple of ints; of pairs of ints; the boxes -/
def TI (H : Hp) (v : V) (ns : List Int) : Prop := ∃ a, v = .ref a ∧ H a = some (.tup (ns.map V.int))
def TP (H : Hp) (v : V) (ps : List (Int × Int)) : Prop := ∃ a vs, v = .ref a ∧ H a = some (.tup vs) ∧ Paired (fun v (p : Int × Int) => TI H v [p.1, p.2]) vs ps
theorem TI.up {H H' : Hp} {v : V} {ns : List Int} (h : TI H v ns) (k : Kp H H') : TI H' v ns := by
  obtain ⟨a, e, h⟩ := h
  exact ⟨a, e, k.tup h⟩
theorem prd_imp {α β : Type} {F G : α → β → Prop} : ∀ {l : List α} {m : List β}, Paired F l m → (∀ a b, F a b → G a b) → Paired G l m
  | _, _, .nil, _ => .nil
  | _, _, .cons h t, f => .cons (f _ _ h) (prd_imp t f)
theorem TP.up {H H' : Hp} {v : V} {ps : List (Int × Int)} (h : TP H v ps) (k : Kp H H') : TP H' v ps := by
  obtain ⟨a, vs, e, h, q⟩ := h
  exact ⟨a, vs, e, k.tup h, prd_imp q fun _ _ z => z.up k⟩
def bF (t : V) (n : Nat) : List (Str × V) := [("sizes", t), ("many", .int (n : Nat))]
def BX (K : PySem.W.Frag) (H : Hp) (v : V) (ss : List (Int × Int)) : Prop := ∃ b dx t, v = .ref b ∧ H b = some (.ins (cB K) dx (bF t ss.length)) ∧ TP H t ss
theorem BX.up {K : PySem.W.Frag} {H H' : Hp} {v : V} {ss : List (Int × Int)} (h : BX K H v ss) (k : Kp H H') : BX K H' v ss := by
  obtain ⟨b, dx, t, e, h, q⟩ := h
  exact ⟨b, dx, t, e, k.ins h, q.up k⟩
theorem bF_sizes (t : V) (n : Nat) : (bF t n).lookup ("sizes" : Str) = some t := by
  have e : (("sizes" : Str) == ("sizes" : Str)) = true := beq_self_eq_true _
  simp only [bF, List.lookup, e]
theorem bF_many (t : V) (n : Nat) : (bF t n).lookup ("many" : Str) = some (.int (n : Nat)) := by
  have e1 : (("many" : Str) == ("sizes" : Str)) = false := by decide +kernel
  have e2 : (("many" : Str) == ("many" : Str)) = true := beq_self_eq_true _
  simp only [bF, List.lookup, e1, e2]
/-- o.sizes, o.many of the boxes -/
theorem fld_sizes {K : PySem.W.Frag} {mg : Str → Option Value} (T : Tx K mg) {σ : L2.St} {H : Hp} {Q : VK} {i : Nat} {v : V} {ss : List (Int × Int)} (hv : σ[i]? = some (some v)) (h : BX K H v ss) (k : ∀ t, TP H t ss → Q t H) : tFld K (tVar i) "sizes" σ H Q := by
  obtain ⟨b, dx, t, rfl, h, q⟩ := h
  exact ⟨_, hv, b, _, dx, _, t, rfl, h, T.clB, T.nS, bF_sizes _ _, k t q⟩
theorem fld_many {K : PySem.W.Frag} {mg : Str → Option Value} (T : Tx K mg) {σ : L2.St} {H : Hp} {Q : VK} {i : Nat} {v : V} {ss : List (Int × Int)} (hv : σ[i]? = some (some v)) (h : BX K H v ss) (k : Q (.int (ss.length : Nat)) H) : tFld K (tVar i) "many" σ H Q := by
  obtain ⟨b, dx, t, rfl, h, q⟩ := h
  exact ⟨_, hv, b, _, dx, _, _, rfl, h, T.clB, T.nM, bF_many _ _, k⟩

/-! ### comprehensions -/
theorem lt_line {n : Nat} (h : n ≤ 1000000) : n < sizeLine := by
  rw [sizeLine_eq]
  omega
theorem take_snoc {α : Type} {zs : List α} {i : Nat} {z : α} (h : zs[i]? = some z) : zs.take (i + 1) = zs.take i ++ [z] := by
  rw [List.take_add_one, h]
  rfl
section
variable {J : It} {n : Nat} {Gd : Hp → Prop} {Y : Nat → Hp → V → Hp → Prop} {g : TG} {tt : TT} {te : TE} {vs : List Nat} {σ : L2.St} {H1 : Hp} {Q : Addr → Hp → Prop}
/-- a comprehension over a walk: S says what stands in the list behind i turns -/
theorem lc_gen (w : Walk J n Gd Y) (S : Nat → List V → Hp → Prop) (hn : n ≤ 100000) (Sup : ∀ i ys H H', Kp H H' → S i ys H → S i ys H') (Sn : ∀ i ys H, S i ys H → ys.length ≤ i) (hG : ∀ H', Same H1 H' → Gd H') (h0 : S 0 [] H1)
    (hs : ∀ (i : Nat) (x : V) (ys : List V) (H' H'' : Hp), i < n → Same H1 H' → S i ys H' → Y i H' x H'' → ∀ (Qt : VK) (Qf : Hp → Prop), (∀ y H4, Same H' H4 → S (i + 1) (ys ++ [y]) H4 → Qt y H4) → (∀ H4, Same H' H4 → S (i + 1) ys H4 → Qf H4) →
      g x (wipe σ vs) H'' fun σ2 H2 => wipe σ2 vs = wipe σ vs ∧ tt σ2 H2 fun b H3 => if b = true then te σ2 H3 Qt else Qf H3)
    (hd : ∀ D ys H', H1 D = none → Same H1 H' → H' D = some (.lst ys) → S n ys H' → Q D H') (D : Addr) (hD : H1 D = none) :
    ∃ W : Nat → Nat → Hp → Prop, (∃ m, W 0 m (upd H1 D (.lst []))) ∧ ∀ i m H, W i m H →
      (J.stop i H ∧ Q D H) ∨ (J.go i H ∧ ∃ Nx : Hp → Prop, (∀ H', Nx H' → ∃ m', m' < m ∧ W (i + 1) m' H') ∧ ∀ x H', J.yld i H x H' → g x (wipe σ vs) H' fun σ2 H2 => wipe σ2 vs = wipe σ vs ∧ tt σ2 H2 fun b H3 =>
        if b = true then te σ2 H3 fun y H4 => ∃ acc, H4 D = some (.lst acc) ∧ acc.length < sizeLine ∧ Nx (upd H4 D (.lst (acc ++ [y]))) else Nx H3) := by
  refine lc_it w (Qd := fun H => Q D H) (fun i H => ∃ ys, Same H1 H ∧ H D = some (.lst ys) ∧ S i ys H) ⟨[], sn hD, upd_same, Sup _ _ _ _ (kp (sn hD)) h0⟩ (fun i H _ p => hG H p.choose_spec.1) (fun i x H H' hi p y => ?_) fun H p => ?_
  · obtain ⟨ys, s1, hl, hS⟩ := p
    refine hs i x ys H H' hi s1 hS y _ _ (fun v H4 s2 q => ?_) fun H4 s2 q => ⟨ys, s1.trans s2, s2 _ _ hl, q⟩
    have l4 := s2 _ _ hl
    refine ⟨ys, l4, ?_, ys ++ [v], same_mut (s1.trans s2) hD, upd_same, Sup _ _ _ _ (kpL l4) q⟩
    have := Sn _ _ _ hS
    exact lt_line (by omega)
  · obtain ⟨ys, s1, hl, hS⟩ := p
    exact hd D ys H hD s1 hl hS
/-- each item of zs gives f of it -/
theorem lc_map {α : Type} (zs : List α) (f : α → V) (w : Walk J zs.length Gd Y) (hn : zs.length ≤ 100000) (hG : ∀ H', Same H1 H' → Gd H')
    (hs : ∀ (i : Nat) (z : α) (x : V) (H' H'' : Hp), zs[i]? = some z → Same H1 H' → Y i H' x H'' → ∀ Qt : VK, (∀ H4, Same H' H4 → Qt (f z) H4) → g x (wipe σ vs) H'' fun σ2 H2 => wipe σ2 vs = wipe σ vs ∧ te σ2 H2 Qt)
    (hd : ∀ D H', H1 D = none → Same H1 H' → H' D = some (.lst (zs.map f)) → Q D H') (D : Addr) (hD : H1 D = none) :
    ∃ W : Nat → Nat → Hp → Prop, (∃ m, W 0 m (upd H1 D (.lst []))) ∧ ∀ i m H, W i m H →
      (J.stop i H ∧ Q D H) ∨ (J.go i H ∧ ∃ Nx : Hp → Prop, (∀ H', Nx H' → ∃ m', m' < m ∧ W (i + 1) m' H') ∧ ∀ x H', J.yld i H x H' → g x (wipe σ vs) H' fun σ2 H2 => wipe σ2 vs = wipe σ vs ∧ tYes σ2 H2 fun b H3 =>
        if b = true then te σ2 H3 fun y H4 => ∃ acc, H4 D = some (.lst acc) ∧ acc.length < sizeLine ∧ Nx (upd H4 D (.lst (acc ++ [y]))) else Nx H3) := by
  refine lc_gen w (fun i ys _ => ys = (zs.take i).map f) hn (fun _ _ _ _ _ h => h) (fun i ys _ h => by rw [h, List.length_map, List.length_take]; omega) hG rfl (fun i x ys H' H'' hi s1 hS y Qt Qf k1 _ => ?_) (fun D ys H' h1 h2 h3 h4 => hd D H' h1 h2 (by rw [h3, h4, List.take_length])) D hD
  have hz : zs[i]? = some zs[i] := List.getElem?_eq_getElem hi
  refine hs i zs[i] x H' H'' hz s1 y Qt fun H4 s2 => k1 _ H4 s2 ?_
  rw [hS, take_snoc hz, List.map_append]
  rfl
/-- the items of zs that p holds of give f of them -/
theorem lc_filt {α : Type} (zs : List α) (p : α → Bool) (f : α → V) (w : Walk J zs.length Gd Y) (hn : zs.length ≤ 100000) (hG : ∀ H', Same H1 H' → Gd H')
    (hs : ∀ (i : Nat) (z : α) (x : V) (H' H'' : Hp), zs[i]? = some z → Same H1 H' → Y i H' x H'' → ∀ (Qt : VK) (Qf : Hp → Prop), (∀ H4, Same H' H4 → p z = true → Qt (f z) H4) → (∀ H4, Same H' H4 → p z = false → Qf H4) →
      g x (wipe σ vs) H'' fun σ2 H2 => wipe σ2 vs = wipe σ vs ∧ tt σ2 H2 fun b H3 => if b = true then te σ2 H3 Qt else Qf H3)
    (hd : ∀ D H', H1 D = none → Same H1 H' → H' D = some (.lst ((zs.filter p).map f)) → Q D H') (D : Addr) (hD : H1 D = none) :
    ∃ W : Nat → Nat → Hp → Prop, (∃ m, W 0 m (upd H1 D (.lst []))) ∧ ∀ i m H, W i m H →
      (J.stop i H ∧ Q D H) ∨ (J.go i H ∧ ∃ Nx : Hp → Prop, (∀ H', Nx H' → ∃ m', m' < m ∧ W (i + 1) m' H') ∧ ∀ x H', J.yld i H x H' → g x (wipe σ vs) H' fun σ2 H2 => wipe σ2 vs = wipe σ vs ∧ tt σ2 H2 fun b H3 =>
        if b = true then te σ2 H3 fun y H4 => ∃ acc, H4 D = some (.lst acc) ∧ acc.length < sizeLine ∧ Nx (upd H4 D (.lst (acc ++ [y]))) else Nx H3) := by
  refine lc_gen w (fun i ys _ => ys = ((zs.take i).filter p).map f) hn (fun _ _ _ _ _ h => h) (fun i ys _ h => ?_) hG rfl (fun i x ys H' H'' hi s1 hS y Qt Qf k1 k2 => ?_) (fun D ys H' h1 h2 h3 h4 => hd D H' h1 h2 (by rw [h3, h4, List.take_length])) D hD
  · rw [h, List.length_map]
    have h1 := List.length_filter_le p (zs.take i)
    rw [List.length_take] at h1
    omega
  · have hz : zs[i]? = some zs[i] := List.getElem?_eq_getElem hi
    refine hs i zs[i] x H' H'' hz s1 y Qt Qf (fun H4 s2 hp => k1 _ H4 s2 ?_) fun H4 s2 hp => k2 H4 s2 ?_
    · rw [hS, take_snoc hz, List.filter_append, List.map_append, List.filter_cons, if_pos hp]
      rfl
    · rw [hS, take_snoc hz, List.filter_append, List.filter_cons, if_neg (by rw [hp]; exact Bool.false_ne_true)]
      simp
/-- each item z of zs gives a thing of which R z holds -/
theorem lc_rel {α : Type} (zs : List α) (R : α → V → Hp → Prop) (Rup : ∀ z y H H', Kp H H' → R z y H → R z y H') (w : Walk J zs.length Gd Y) (hn : zs.length ≤ 100000) (hG : ∀ H', Same H1 H' → Gd H')
    (hs : ∀ (i : Nat) (z : α) (x : V) (H' H'' : Hp), zs[i]? = some z → Same H1 H' → Y i H' x H'' → ∀ Qt : VK, (∀ y H4, Same H' H4 → R z y H4 → Qt y H4) → g x (wipe σ vs) H'' fun σ2 H2 => wipe σ2 vs = wipe σ vs ∧ te σ2 H2 Qt)
    (hd : ∀ D ys H', H1 D = none → Same H1 H' → H' D = some (.lst ys) → Paired (fun y z => R z y H') ys zs → Q D H') (D : Addr) (hD : H1 D = none) :
    ∃ W : Nat → Nat → Hp → Prop, (∃ m, W 0 m (upd H1 D (.lst []))) ∧ ∀ i m H, W i m H →
      (J.stop i H ∧ Q D H) ∨ (J.go i H ∧ ∃ Nx : Hp → Prop, (∀ H', Nx H' → ∃ m', m' < m ∧ W (i + 1) m' H') ∧ ∀ x H', J.yld i H x H' → g x (wipe σ vs) H' fun σ2 H2 => wipe σ2 vs = wipe σ vs ∧ tYes σ2 H2 fun b H3 =>
        if b = true then te σ2 H3 fun y H4 => ∃ acc, H4 D = some (.lst acc) ∧ acc.length < sizeLine ∧ Nx (upd H4 D (.lst (acc ++ [y]))) else Nx H3) := by
  refine lc_gen w (fun i ys H => Paired (fun y z => R z y H) ys (zs.take i)) hn (fun i ys H H' k h => prd_imp h fun a b q => Rup _ _ _ _ k q) (fun i ys _ h => by rw [Paired.length h, List.length_take]; omega) hG .nil (fun i x ys H' H'' hi s1 hS y Qt Qf k1 _ => ?_) (fun D ys H' h1 h2 h3 h4 => hd D ys H' h1 h2 h3 (by rw [List.take_length] at h4; exact h4)) D hD
  have hz : zs[i]? = some zs[i] := List.getElem?_eq_getElem hi
  refine hs i zs[i] x H' H'' hz s1 y Qt fun v H4 s2 q => k1 _ H4 s2 ?_
  rw [take_snoc hz]
  exact (prd_imp hS fun a b q => Rup _ _ _ _ (kp s2) q).snoc q
end
end K20

/-! Tuples known to the object: the one road to a method of a tuple made by the program. -/
namespace K20
open PySem PySem.Spec PyProof.Rows L2
section
variable {X : Cx}
/-- tuple(a list), the new tuple known to the object -/
def rTupZ (K : PySem.W.Frag) : List V → Hp → VK → Prop := fun xs H Q => ∃ p ys, xs = [.ref p] ∧ SqL K H p ys ∧ ∀ (l : Addr) (o : Obj), o.dict = none → H l = none → Q (.ref l) (upd H l (.frz o (.tup ys)))
theorem cr_tupZ : CallR X (.type "tuple") (rTupZ X.K) := by
  intro pins s σ H xs us Q I r h
  obtain ⟨p, ys, rfl, hq, q⟩ := h
  obtain ⟨u, rfl, rx⟩ := vals1 r
  cases rx
  obtain ⟨its, r', pl, hz⟩ := I.list hq
  have hlen := r'.length
  refine call_tuple_list pl.isList (fun h' kp => ?_) (by simp only [List.size_toArray] <;> omega)
  have I1 : Inv X pins σ H { s with heap := h' } := I.kept (t' := s.toks) kp
  have I2 : Inv X pins σ (upd H h'.objs.size (.frz { cls := .type "tuple", data := .seq its.toArray } (.tup ys))) { s with heap := h'.push { cls := .type "tuple", data := .seq its.toArray } } :=
    I1.laid (t' := s.toks) (fun b o e => Heap.get?_push_of_some _ e) (Nat.le_refl _) (show ObjOk X.prog X.w _ _ _ (.frz _ (.tup ys)) from ⟨Heap.get?_push_size _ rfl, hz, its, r', IsTup.new _ _⟩)
  exact ⟨.ref h'.objs.size, _, I2, rfl, q _ _ rfl (I1.hok.fresh (Nat.le_refl _))⟩
theorem k_tupZ {K : PySem.W.Frag} (h : X.K = K) : CallR X (.type "tuple") (rTupZ K) := h ▸ cr_tupZ
/-- a tuple known to the object, no dict of its own -/
def Zt (H : Hp) (p : Addr) (xs : List V) : Prop := ∃ o : Obj, H p = some (.frz o (.tup xs)) ∧ o.dict = none
def tBMZ (r : V → List V → Hp → VK → Prop) (to : TE) (t : TA) : TE := fun σ H Q => to σ H fun x H1 => (∃ p xs, x = .ref p ∧ Zt H1 p xs) ∧ t σ H1 fun ys H2 => r x ys H2 Q
theorem pe_bmZ {o e : Expr} {es : List Expr} {to : TE} {t : TA} {name : Str} {apos cpos : Pos} {id : String} {r : V → List V → Hp → VK → Prop} (pa : PlainAttrs "tuple") (slot : Slot "tuple" name id) (hty : typeOf (.builtin id) = pure (.type "method_descriptor")) (hm : MtR X id r) (ho : PE X o to) (ha : PA X (e :: es) t)
    (hbase : attributeBase o name X.env (eval o X.env) = eval o X.env := by rfl)
    (hfew : ((backTo cpos (starEach (e :: es) X.env)).all (fun x => !x.1) && (backToKw cpos (keywordEach [] X.env)).all (fun x => x.1.isSome)
      && decide ((e :: es).length + ([] : List Keyword).length + (if ([] : List Keyword).isEmpty then 0 else 1) < 30)) = true := by rfl)
    (hline : (apos.endLine == cpos.line) = true := by rfl) (hs : starEach (e :: es) X.env = (false, eval e X.env) :: starEach es X.env := by rfl) (hplain : (backTo cpos (starEach es X.env)).any (·.1) = false := by rfl) :
    PE X (.Call (.Attribute o name apos) (e :: es) [] cpos) (tBMZ r to t) := by
  refine ⟨fun pins s σ H Q I h => ?_⟩
  refine wpAny_Call_method_late hbase hfew hline rfl (thn (ho.run pins s σ H _ I h) fun v s1 ⟨x, H1, I1, r1, ⟨p, xs, ex, ob, hz, hd⟩, q1⟩ => ?_)
  subst ex
  obtain rfl : v = Value.ref p := r1
  obtain ⟨e1, _, its, _, o2, e2, c2, _⟩ := I1.hok p _ hz
  refine ⟨"tuple", id, pa, slot, hty, ⟨o2, e2, c2⟩, fun a ea => ?_, ?_⟩
  · cases ea
    exact ⟨ob, e1, hd⟩
  have hA := ha.run cpos pins s1 σ H1 _ I1 q1
  rw [hs] at hA ⊢
  refine Calls.callWith_builtin (by show (false || (backTo cpos (starEach es X.env)).any (·.1)) = false; rw [hplain] <;> rfl) (Calls.evalArgs_plain ?_)
  exact thn hA fun us s2 ⟨vs, H2, I2, r2, q2⟩ => hm pins s2 σ H2 (.ref p) vs (.ref p) us Q I2 rfl r2 q2
/-- from here on the thing at d is no longer known to the object -/
def tUnl (N : Addr → Prop) (t : TS) : TS := fun D σ H => ∃ d o u, N d ∧ H d = some (.frz o u) ∧ t D σ (upd H d u)
theorem ps_unl {N : Addr → Prop} {st : Stmt} {t : TS} (hN : ∀ d, N d → ∀ o u, X.H_0 d ≠ some (.frz o u)) (h : PS X st t) : PS X st (tUnl N t) := ⟨fun pins s σ H D I hh => by
  obtain ⟨d, o, u, n, e, q⟩ := hh
  exact h.run pins s σ _ D (I.unlock e (hN d n)) q⟩
/-- N: what the block made itself -/
def tFree (T : (Addr → Prop) → TS) : TS := fun D σ H => T (fun d => H d = none) D σ H
theorem pss_free {b : List Stmt} {T : (Addr → Prop) → TS} (h : ∀ N : Addr → Prop, (∀ d, N d → ∀ o u, X.H_0 d ≠ some (.frz o u)) → PSs X b (T N)) : PSs X b (tFree T) := ⟨fun pins s σ H D I q =>
  (h _ fun d n o u e => by
    have := I.base.frzs d o u e
    rw [n] at this
    cases this).run pins s σ H D I q⟩
end
theorem Zt.sq {K : PySem.W.Frag} {H : Hp} {p : Addr} {xs : List V} (h : Zt H p xs) : SqT K H p xs := by
  obtain ⟨o, h, _⟩ := h
  exact .inl (.inr ⟨o, h⟩)
theorem Zt.up {H H' : Hp} {p : Addr} {xs : List V} (h : Zt H p xs) (s : Same H H') : Zt H' p xs := by
  obtain ⟨o, h, d⟩ := h
  exact ⟨o, s _ _ h, d⟩
end K20

namespace K20
open PySem PySem.Spec PyProof.Rows L2
/-! ### kinds of things -/
def isInt : V → Bool
  | .int _ => true
  | _ => false
def isBl : V → Bool
  | .bl _ => true
  | _ => false
inductive Kd (H : Hp) : V → Prop
  | non : Kd H .non
  | bl (b : Bool) : Kd H (.bl b)
  | int (i : Int) : Kd H (.int i)
  | str (z : Str) : Kd H (.str z)
  | lst {a : Addr} {xs : List V} (e : H a = some (.lst xs)) : Kd H (.ref a)
  | tup {a : Addr} {xs : List V} (e : H a = some (.tup xs)) : Kd H (.ref a)
  | dK {a : Addr} {kvs : List (Key × V)} (e : H a = some (.dK kvs)) : Kd H (.ref a)
theorem Kd.up {H H' : Hp} {v : V} (h : Kd H v) (k : Kp H H') : Kd H' v := by
  cases h with
  | non => exact .non
  | bl b => exact .bl b
  | int i => exact .int i
  | str z => exact .str z
  | lst e =>
    obtain ⟨ys, e2⟩ := k.lst e
    exact .lst e2
  | tup e => exact .tup (k.tup e)
  | dK e =>
    obtain ⟨ys, e2⟩ := k.dK e
    exact .dK e2
/-- of a kind, no tuple -/
def NT (H : Hp) (v : V) : Prop := Kd H v ∧ ∀ a xs, v = .ref a → H a ≠ some (.tup xs)
/-- a thing: a tuple of things of a kind, or no tuple -/
def Th (H : Hp) (v : V) : Prop := (∃ a xs, v = .ref a ∧ H a = some (.tup xs) ∧ ∀ x ∈ xs, Kd H x) ∨ NT H v
/-- isinstance(x, n) is b -/
def Isi (K : PySem.W.Frag) (H : Hp) (x : V) (n : String) (b : Bool) : Prop := ∃ t u : Value, ClsV (.ty n) u ∧ TyX K H x t ∧ PySem.W.kitOne K t u = some b
theorem isi_of {K : PySem.W.Frag} {H : Hp} {x : V} {t n : String} {b : Bool} (ty : TyOf K H x (.type t)) (h : kitB t n = some b) : Isi K H x n b := ⟨_, _, .ty n, .base ty, kit_ty h⟩
theorem isi_int {K : PySem.W.Frag} {H : Hp} {x : V} (h : Kd H x) : Isi K H x "int" (isInt x || isBl x) := by
  cases h with
  | non => exact isi_of (b := false) .non (by decide +kernel)
  | bl b => exact isi_of (b := true) (.bl _) (by decide +kernel)
  | int i => exact isi_of (b := true) (.int _) (by decide +kernel)
  | str z => exact isi_of (b := false) (.str _) (by decide +kernel)
  | lst e => exact isi_of (b := false) (.lst e) (by decide +kernel)
  | tup e => exact isi_of (b := false) (.tup e) (by decide +kernel)
  | dK e => exact isi_of (b := false) (.dK e) (by decide +kernel)
theorem isi_bool {K : PySem.W.Frag} {H : Hp} {x : V} (h : Kd H x) : Isi K H x "bool" (isBl x) := by
  cases h with
  | non => exact isi_of (b := false) .non (by decide +kernel)
  | bl b => exact isi_of (b := true) (.bl _) (by decide +kernel)
  | int i => exact isi_of (b := false) (.int _) (by decide +kernel)
  | str z => exact isi_of (b := false) (.str _) (by decide +kernel)
  | lst e => exact isi_of (b := false) (.lst e) (by decide +kernel)
  | tup e => exact isi_of (b := false) (.tup e) (by decide +kernel)
  | dK e => exact isi_of (b := false) (.dK e) (by decide +kernel)
theorem isi_tup {K : PySem.W.Frag} {H : Hp} {a : Addr} {xs : List V} (e : H a = some (.tup xs)) : Isi K H (.ref a) "tuple" true := isi_of (.tup e) (by decide +kernel)
theorem isi_str {K : PySem.W.Frag} {H : Hp} (z : Str) : Isi K H (.str z) "str" true := isi_of (.str z) (by decide +kernel)
theorem isi_nt {K : PySem.W.Frag} {H : Hp} {x : V} (h : NT H x) : Isi K H x "tuple" false := by
  obtain ⟨h, n⟩ := h
  cases h with
  | non => exact isi_of .non (by decide +kernel)
  | bl b => exact isi_of (.bl _) (by decide +kernel)
  | int i => exact isi_of (.int _) (by decide +kernel)
  | str z => exact isi_of (.str _) (by decide +kernel)
  | lst e => exact isi_of (.lst e) (by decide +kernel)
  | tup e => exact absurd e (n _ _ rfl)
  | dK e => exact isi_of (.dK e) (by decide +kernel)
theorem qb {Q : VK} {H : Hp} {a b : Bool} (e : a = b) (h : Q (.bl b) H) : Q (.bl a) H := by
  rw [e]
  exact h
def inB (x : V) (a b : Int) : Bool := match x with
  | .int i => decide (a ≤ i) && decide (i ≤ b)
  | _ => false
/-! is_integer: slots 0=thing -/
def sp_is_integer : Sp := fun vs H Q _ => ∃ x, vs = [x] ∧ Kd H x ∧ Q (.bl (isInt x)) H
theorem sc_is_integer : FnScope ["thing"] ["thing"] (defScope (top 9)) := ⟨rfl, rfl, rfl, by decide +kernel, rfl, by decide +kernel, by decide +kernel⟩
theorem ok_is_integer {P : Program} {w : World} {K : PySem.W.Frag} {mg : Str → Option Value} {base : Heap} (T : Tx K mg) : Fn P w K mg base "is_integer" 1 ["thing"] (sp_is_integer) := by
  refine mkFn (k := 0) T.t_is_integer sc_is_integer (fun vs H Q E h => ?_) (fun _ _ _ _ _ _ us hl => match us, hl with | [_], _ => rfl) (fun f cdv A outer s H vs Q E hr h => ?_)
  · obtain ⟨x, rfl, hk, q⟩ := h <;> rfl
  · refine ⟨_, (pss_one (ps_ret (pe_and (pe_callB (k_isi (K := K) rfl) rfl T.f_isinstance b_isinstance (pa_cons (pv 0) (pa_cons (pe_ty rfl T.f_int b_int) pa_nil))) (pe_one (pe_not (pe_callB (k_isi (K := K) rfl) rfl T.f_isinstance b_isinstance (pa_cons (pv 0) (pa_cons (pe_ty rfl T.f_bool b_bool) pa_nil)))))))), ?_⟩
    obtain ⟨x, rfl, hk, q⟩ := h
    obtain ⟨t1, u1, a1, a2, a3⟩ := isi_int (K := K) hk
    obtain ⟨t2, u2, b1, b2, b3⟩ := isi_bool (K := K) hk
    refine ⟨x, rfl, x, .ty "int", t1, u1, _, rfl, a1, a2, a3, _, rfl, ite2 (fun c => ⟨x, rfl, x, .ty "bool", t2, u2, _, rfl, b1, b2, b3, _, rfl, ?_⟩) (fun c => ?_)⟩
    · refine qb ?_ q
      cases x <;> first | rfl | cases c
    · refine qb ?_ q
      cases x <;> first | rfl | exact absurd rfl c
/-! is_within: slots 0=thing 1=least 2=most -/
def sp_is_within : Sp := fun vs H Q _ => ∃ x a b, vs = [x, .int a, .int b] ∧ Kd H x ∧ Q (.bl (inB x a b)) H
theorem sc_is_within : FnScope ["thing", "least", "most"] ["thing", "least", "most"] (defScope (top 10)) := ⟨rfl, rfl, rfl, by decide +kernel, rfl, by decide +kernel, by decide +kernel⟩
theorem ok_is_within {P : Program} {w : World} {K : PySem.W.Frag} {mg : Str → Option Value} {base : Heap} (T : Tx K mg) : Fn P w K mg base "is_within" 2 ["thing", "least", "most"] (sp_is_within) := by
  refine mkFn (k := 1) T.t_is_within sc_is_within (fun vs H Q E h => ?_) (fun _ _ _ _ _ _ us hl => match us, hl with | [_, _, _], _ => rfl) (fun f cdv A outer s H vs Q E hr h => ?_)
  · obtain ⟨x, a, b, rfl, hk, q⟩ := h <;> rfl
  · refine ⟨_, (pss_one (ps_ret (pe_and (cl (ok_is_integer T) (hr.mono (by decide)) rfl (pa_cons (pv 0) pa_nil)) (pe_one (pe_chain op_le op_le (pv 1) (pv 0) (pv 2)))))), ?_⟩
    obtain ⟨x, a, b, rfl, hk, q⟩ := h
    refine ⟨x, rfl, x, rfl, hk, _, rfl, ite2 (fun c => ?_) (fun c => ?_)⟩
    · obtain ⟨i, rfl⟩ : ∃ i, x = .int i := by
        cases x <;> first | exact ⟨_, rfl⟩ | cases c
      refine ⟨_, rfl, _, rfl, a, i, rfl, rfl, _, rfl, ite2 (fun c1 => ⟨_, rfl, i, b, rfl, rfl, ?_⟩) (fun c1 => ?_)⟩
      · refine qb ?_ q
        show decide (i ≤ b) = (decide (a ≤ i) && decide (i ≤ b))
        rw [c1]
        rfl
      · refine qb ?_ q
        show false = (decide (a ≤ i) && decide (i ≤ b))
        rw [Bool.not_eq_true] at c1
        rw [c1]
        rfl
    · refine qb ?_ q
      cases x <;> first | rfl | exact absurd rfl c
/-! is_below: slots 0=thing 1=many -/
def sp_is_below : Sp := fun vs H Q _ => ∃ x n, vs = [x, .int n] ∧ Kd H x ∧ Q (.bl (inB x 0 (n - 1))) H
theorem sc_is_below : FnScope ["thing", "many"] ["thing", "many"] (defScope (top 11)) := ⟨rfl, rfl, rfl, by decide +kernel, rfl, by decide +kernel, by decide +kernel⟩
theorem ok_is_below {P : Program} {w : World} {K : PySem.W.Frag} {mg : Str → Option Value} {base : Heap} (T : Tx K mg) : Fn P w K mg base "is_below" 3 ["thing", "many"] (sp_is_below) := by
  refine mkFn (k := 2) T.t_is_below sc_is_below (fun vs H Q E h => ?_) (fun _ _ _ _ _ _ us hl => match us, hl with | [_, _], _ => rfl) (fun f cdv A outer s H vs Q E hr h => ?_)
  · obtain ⟨x, n, rfl, hk, q⟩ := h <;> rfl
  · refine ⟨_, (pss_one (ps_ret (cl (ok_is_within T) (hr.mono (by decide)) rfl (pa_cons (pv 0) (pa_cons pe_int (pa_cons (pe_op op_sub (pv 1) pe_int) pa_nil)))))), ?_⟩
    obtain ⟨x, n, rfl, hk, q⟩ := h
    exact ⟨x, rfl, _, rfl, n, 1, rfl, rfl, x, 0, _, rfl, hk, q⟩
/-! is_pair: slots 0=thing -/
def sp_is_pair : Sp := fun vs H Q _ => ∃ (a : Addr) (xs : List V), vs = [.ref a] ∧ H a = some (.tup xs) ∧ Q (.bl (decide (xs.length = 2))) H
theorem sc_is_pair : FnScope ["thing"] ["thing"] (defScope (top 12)) := ⟨rfl, rfl, rfl, by decide +kernel, rfl, by decide +kernel, by decide +kernel⟩
theorem ok_is_pair {P : Program} {w : World} {K : PySem.W.Frag} {mg : Str → Option Value} {base : Heap} (T : Tx K mg) : Fn P w K mg base "is_pair" 1 ["thing"] (sp_is_pair) := by
  refine mkFn (k := 0) T.t_is_pair sc_is_pair (fun vs H Q E h => ?_) (fun _ _ _ _ _ _ us hl => match us, hl with | [_], _ => rfl) (fun f cdv A outer s H vs Q E hr h => ?_)
  · obtain ⟨a, xs, rfl, h, q⟩ := h <;> rfl
  · refine ⟨_, (pss_one (ps_ret (pe_and (pe_callB (k_isi (K := K) rfl) rfl T.f_isinstance b_isinstance (pa_cons (pv 0) (pa_cons (pe_ty rfl T.f_tuple b_tuple) pa_nil))) (pe_one (pe_cmpR op_eq (pe_callB (k_len (K := K) rfl) rfl T.f_len b_len (pa_cons (pv 0) pa_nil)) pe_int (nomark _)))))), ?_⟩
    obtain ⟨a, xs, rfl, h, q⟩ := h
    obtain ⟨t1, u1, a1, a2, a3⟩ := isi_tup (K := K) h
    refine ⟨_, rfl, _, .ty "tuple", t1, u1, _, rfl, a1, a2, a3, _, rfl, iteT ⟨_, rfl, a, xs, rfl, .inr (SqT.of h), rfl, qb ?_ q⟩⟩
    rw [dec_int]
    by_cases e : xs.length = 2
    · rw [e]
      rfl
    · rw [decide_eq_false e]
      exact beq_eq_false_iff_ne.mpr (by omega)
/-! is_sized: slots 0=thing 1=least 2=most -/
def sp_is_sized : Sp := fun vs H Q _ => (∃ (a : Addr) (xs : List V) (lo hi : Int), vs = [.ref a, .int lo, .int hi] ∧ H a = some (.tup xs) ∧ Q (.bl (decide (lo ≤ (xs.length : Int)) && decide ((xs.length : Int) ≤ hi))) H) ∨
  ∃ (x : V) (lo hi : Int), vs = [x, .int lo, .int hi] ∧ NT H x ∧ Q (.bl false) H
theorem sc_is_sized : FnScope ["thing", "least", "most"] ["thing", "least", "most"] (defScope (top 13)) := ⟨rfl, rfl, rfl, by decide +kernel, rfl, by decide +kernel, by decide +kernel⟩
theorem ok_is_sized {P : Program} {w : World} {K : PySem.W.Frag} {mg : Str → Option Value} {base : Heap} (T : Tx K mg) : Fn P w K mg base "is_sized" 1 ["thing", "least", "most"] (sp_is_sized) := by
  refine mkFn (k := 0) T.t_is_sized sc_is_sized (fun vs H Q E h => ?_) (fun _ _ _ _ _ _ us hl => match us, hl with | [_, _, _], _ => rfl) (fun f cdv A outer s H vs Q E hr h => ?_)
  · obtain ⟨a, xs, lo, hi, rfl, h, q⟩ | ⟨x, lo, hi, rfl, h, q⟩ := h <;> rfl
  · refine ⟨_, (pss_one (ps_ret (pe_and (pe_callB (k_isi (K := K) rfl) rfl T.f_isinstance b_isinstance (pa_cons (pv 0) (pa_cons (pe_ty rfl T.f_tuple b_tuple) pa_nil))) (pe_one (pe_chain op_le op_le (pv 1) (pe_callB (k_len (K := K) rfl) rfl T.f_len b_len (pa_cons (pv 0) pa_nil)) (pv 2)))))), ?_⟩
    obtain ⟨a, xs, lo, hi, rfl, h, q⟩ | ⟨x, lo, hi, rfl, h, q⟩ := h
    · obtain ⟨t1, u1, a1, a2, a3⟩ := isi_tup (K := K) h
      refine ⟨_, rfl, _, .ty "tuple", t1, u1, _, rfl, a1, a2, a3, _, rfl, iteT ⟨_, rfl, _, rfl, a, xs, rfl, .inr (SqT.of h), lo, _, rfl, rfl, _, rfl, ite2 (fun c => ⟨_, rfl, _, hi, rfl, rfl, qb ?_ q⟩) (fun c => qb ?_ q)⟩⟩
      · rw [c]
        rfl
      · rw [Bool.not_eq_true] at c
        rw [c]
        rfl
    · obtain ⟨t1, u1, a1, a2, a3⟩ := isi_nt (K := K) h
      exact ⟨_, rfl, _, .ty "tuple", t1, u1, _, rfl, a1, a2, a3, _, rfl, iteF q⟩
/-! are_integers: slots 0=thing 1=many 2=item -/
def sp_are_integers : Sp := fun vs H Q _ => (∃ (a : Addr) (xs : List V) (n : Nat), vs = [.ref a, .int (n : Nat)] ∧ H a = some (.tup xs) ∧ n ≤ 100 ∧ (∀ x ∈ xs, Kd H x) ∧ ∀ H', Same H H' → Q (.bl (decide (xs.length = n) && xs.all isInt)) H') ∨
  ∃ (x : V) (n : Nat), vs = [x, .int (n : Nat)] ∧ NT H x ∧ Q (.bl false) H
theorem sc_are_integers : FnScope ["thing", "many", "item"] ["thing", "many"] (defScope (top 14)) := ⟨rfl, rfl, rfl, by decide +kernel, rfl, by decide +kernel, by decide +kernel⟩
theorem ok_are_integers {P : Program} {w : World} {K : PySem.W.Frag} {mg : Str → Option Value} {base : Heap} (T : Tx K mg) : Fn P w K mg base "are_integers" 2 ["thing", "many"] (sp_are_integers) := by
  refine mkFn (k := 1) T.t_are_integers sc_are_integers (fun vs H Q E h => ?_) (fun _ _ _ _ _ _ us hl => match us, hl with | [_, _], _ => rfl) (fun f cdv A outer s H vs Q E hr h => ?_)
  · obtain ⟨a, xs, n, rfl, h, hn, hk, q⟩ | ⟨x, n, rfl, h, q⟩ := h <;> rfl
  · refine ⟨_, (pss_one (ps_ret (pe_and (cl (ok_is_sized T) (hr.mono (by decide)) rfl (pa_cons (pv 0) (pa_cons (pv 1) (pa_cons (pv 1) pa_nil)))) (pe_one (pe_callB (k_all (K := K) rfl rfl) rfl T.f_all b_all (pa_cons (pe_lc (own := [("item", 2)]) (g := (gName 2)) (tt := tYes) rfl sc_are_integers.nd (k_pt (K := K) rfl (pv 0)) (blkOk_by (N := ["thing", "many", "item"]) (sc := defScope (top 14)) (by decide +kernel)) (fun _ _ _ _ _ => (pg_name (i := 2) sc_are_integers.nd rfl (by first | exact Or.inl rfl | exact Or.inr rfl))) (fun _ _ _ _ _ => pts_nil) (fun _ _ _ _ _ => (cl (ok_is_integer T) (hr.mono (by decide)) rfl (pa_cons (pv 2) pa_nil)))) pa_nil)))))), ?_⟩
    obtain ⟨a, xs, n, rfl, h, hn, hk, q⟩ | ⟨x, n, rfl, h, q⟩ := h
    · refine ⟨_, rfl, _, rfl, _, rfl, .inl ⟨a, xs, _, _, rfl, h, _, rfl, ite2 (fun c => ?_) (fun c => ?_)⟩⟩
      · have el : xs.length = n := by
          rw [Bool.and_eq_true] at c
          have := of_decide_eq_true c.1
          have := of_decide_eq_true c.2
          omega
        refine ⟨_, rfl, a, rfl, ⟨xs, SqT.of h⟩, lc_map xs (fun x => .bl (isInt x)) walk_tup (by omega) (fun H' s => SqT.of (s _ _ h)) (fun i z x H' H'' hz s1 y Qt k => ?_) (fun D H' hD s1 hl => ?_)⟩
        · obtain ⟨rfl, hx⟩ := y
          cases Option.some.inj (hz.symm.trans hx)
          exact ⟨rfl, _, rfl, _, rfl, (hk _ (List.mem_of_getElem? hz)).up (kp s1), k _ (Same.refl _)⟩
        · refine ⟨D, xs.map isInt, rfl, SqL.of (by rw [hl, List.map_map]; rfl), qb ?_ (q H' s1)⟩
          rw [el, decide_eq_true rfl, Bool.true_and, List.all_map]
          rfl
      · refine qb ?_ (q H (Same.refl _))
        have : ¬ xs.length = n := fun e => c (by rw [e]; simp)
        rw [decide_eq_false this]
        rfl
    · exact ⟨_, rfl, _, rfl, _, rfl, .inr ⟨x, _, _, rfl, h, _, rfl, iteF q⟩⟩
/-! ### orders, small tests -/
/-- an order of the numbers below n -/
def Ord (n : Nat) (l : List Nat) : Prop := l.Perm (List.range n)
def NI (l : List Nat) : List Int := l.map fun (i : Nat) => (i : Int)
theorem NI_len (l : List Nat) : (NI l).length = l.length := by
  unfold NI
  rw [List.length_map]
theorem NI_get {l : List Nat} {i j : Nat} (h : l[i]? = some j) : (NI l)[i]? = some (j : Int) := by
  unfold NI
  rw [List.getElem?_map, h]
  rfl
theorem Ord.len {n : Nat} {l : List Nat} (h : Ord n l) : l.length = n := by
  rw [h.length_eq, List.length_range]
theorem Ord.lt {n : Nat} {l : List Nat} (h : Ord n l) {x : Nat} (m : x ∈ l) : x < n := List.mem_range.mp ((List.Perm.mem_iff h).mp m)
theorem Ord.mem {n : Nat} {l : List Nat} (h : Ord n l) {x : Nat} (m : x < n) : x ∈ l := (List.Perm.mem_iff h).mpr (List.mem_range.mpr m)
theorem Ord.nd {n : Nat} {l : List Nat} (h : Ord n l) : l.Nodup := (List.Perm.nodup_iff h).mpr List.nodup_range
/-- a tuple of numbers -/
abbrev TN (H : Hp) (v : V) (l : List Nat) : Prop := TI H v (NI l)
theorem if1 {c : Bool} {A B : Prop} (h : c = true) (a : A) : if c = true then A else B := by
  rw [if_pos h]
  exact a
theorem if0 {c : Bool} {A B : Prop} (h : c = false) (b : B) : if c = true then A else B := by
  rw [h, if_neg Bool.false_ne_true]
  exact b
theorem ifn1 {c : Bool} {A B : Prop} (h : c = false) (a : A) : if (!c) = true then A else B := by
  rw [h]
  exact if1 rfl a
theorem ifn0 {c : Bool} {A B : Prop} (h : c = true) (b : B) : if (!c) = true then A else B := by
  rw [h]
  exact if0 rfl b
theorem dle {a b : Int} (h : a ≤ b) : decide (a ≤ b) = true := decide_eq_true h
theorem dand {a b : Bool} (h1 : a = true) (h2 : b = true) : (a && b) = true := by
  rw [h1, h2]
  rfl
theorem inB_of {i a b : Int} (h1 : a ≤ i) (h2 : i ≤ b) : inB (.int i) a b = true := dand (dle h1) (dle h2)
theorem sz1k {n : Nat} (h : n ≤ 1000) : n ≤ sizeLine := Nat.le_of_lt (small1000 (by omega))
theorem rg0 (n : Nat) : rgV 0 (n : Int) = (NI (List.range n)).map V.int := by
  unfold rgV NI
  rw [List.map_map]
  have e : ((n : Int) - 0).toNat = n := by omega
  rw [e]
  refine List.map_congr_left fun i _ => ?_
  show V.int (0 + (i : Int)) = V.int (i : Int)
  rw [Int.zero_add]
theorem range_le : ∀ n : Nat, (NI (List.range n)).Pairwise (· ≤ ·) := fun n => by
  unfold NI
  rw [List.pairwise_map]
  exact List.Pairwise.imp (fun {a b} (h : a < b) => by omega) List.pairwise_lt_range
/-- lists, tuples of ints as data -/
def dI (ns : List Int) : List PyData := ns.map PyData.int
theorem canLay_ints : ∀ ns : List Int, PyData.canLayAll0 (dI ns) = true
  | [] => by unfold dI; simp [PyData.canLayAll0]
  | n :: ns => by
    have := canLay_ints ns
    unfold dI at this ⊢
    rw [List.map_cons]
    simp only [PyData.canLayAll0, PyData.canLay0, this]
    rfl
theorem shaped_listI (ns : List Int) : SeqAt.shaped (.list (dI ns)) = true := by
  have h := depth_ints ns
  refine dand (by show PyData.canLay0 (.list (dI ns)) = true; simp only [PyData.canLay0]; exact canLay_ints ns) (decide_eq_true ?_)
  show PyData.depth (.list (dI ns)) ≤ 64
  unfold dI
  simp only [PyData.depth]
  omega
theorem eqv_listI (ns : List Int) : PyData.eqv (.list (dI ns)) (.list (dI ns)) = true := SeqAt.eqv_refl _ (by simp only [PyData.canLay0]; exact canLay_ints ns)
theorem dp_listI {K : PySem.W.Frag} {H : Hp} {a : Addr} {ns : List Int} (h : H a = some (.lst (ns.map V.int))) : Dp K H (.ref a) (.list (dI ns)) := .lst (SqL.of h) (dpAll_ints K H ns)
theorem room65 {A : Around} {k : Nat} (hr : Room (k + 1) A) : A.units + 65 < cLine := by have := hr.un; omega
/-! is_order: slots 0=thing 1=many 2=item -/
def sp_is_order : Sp := fun vs H Q _ => ∃ (v : V) (n : Nat) (l : List Nat), vs = [v, .int (n : Nat)] ∧ TN H v l ∧ Ord n l ∧ n ≤ 40 ∧ ∀ H', Same H H' → Q (.bl true) H'
theorem sc_is_order : FnScope ["thing", "many", "item"] ["thing", "many"] (defScope (top 15)) := ⟨rfl, rfl, rfl, by decide +kernel, rfl, by decide +kernel, by decide +kernel⟩
theorem ok_is_order {P : Program} {w : World} {K : PySem.W.Frag} {mg : Str → Option Value} {base : Heap} (T : Tx K mg) : Fn P w K mg base "is_order" 4 ["thing", "many"] (sp_is_order) := by
  refine mkFn (k := 3) T.t_is_order sc_is_order (fun vs H Q E h => ?_) (fun _ _ _ _ _ _ us hl => match us, hl with | [_, _], _ => rfl) (fun f cdv A outer s H vs Q E hr h => ?_)
  · obtain ⟨v, n, l, rfl, ⟨a, rfl, h⟩, ho, hn, q⟩ := h <;> rfl
  · refine ⟨_, (pss_cons (ps_if (PW.pt (pw_or (pt_not (pt_val (cl (ok_is_sized T) (hr.mono (by decide)) rfl (pa_cons (pv 0) (pa_cons (pv 1) (pa_cons (pv 1) pa_nil)))))) (pw_or1 (pt_not (pt_val (pe_callB (k_all (K := K) rfl rfl) rfl T.f_all b_all (pa_cons (pe_lc (own := [("item", 2)]) (g := (gName 2)) (tt := tYes) rfl sc_is_order.nd (k_pt (K := K) rfl (pv 0)) (blkOk_by (N := ["thing", "many", "item"]) (sc := defScope (top 15)) (by decide +kernel)) (fun _ _ _ _ _ => (pg_name (i := 2) sc_is_order.nd rfl (by first | exact Or.inl rfl | exact Or.inr rfl))) (fun _ _ _ _ _ => pts_nil) (fun _ _ _ _ _ => (cl (ok_is_below T) (hr.mono (by decide)) rfl (pa_cons (pv 2) (pa_cons (pv 1) pa_nil))))) pa_nil))))))) (pss_one (ps_ret pe_bl)) pss_nil)
        (pss_one (ps_ret (pe_cmpR (k_eqD (K := K) rfl hr.units) (pe_callB (k_sort (K := K) rfl) rfl T.f_sorted b_sorted (pa_cons (pv 0) pa_nil)) (pe_listRg rfl rfl T.f_list (prg_1 rfl T.f_range (pv 1))) (nomark _))))), ?_⟩
    obtain ⟨v, n, l, rfl, ⟨a, rfl, h⟩, ho, hn, q⟩ := h
    have el : ((NI l).map V.int).length = n := by rw [List.length_map, NI_len, ho.len]
    refine ⟨_, rfl, _, rfl, _, rfl, .inl ⟨a, _, _, _, rfl, h, _, rfl, ifn0 (dand (dle (by omega)) (dle (by omega))) ?_⟩⟩
    refine ⟨_, rfl, a, rfl, ⟨_, SqT.of h⟩, lc_map ((NI l).map V.int) (fun x => .bl (inB x 0 ((n : Int) - 1))) walk_tup (by omega) (fun H' s => SqT.of (s _ _ h)) (fun i z x H' H'' hz s1 y Qt k => ?_) (fun D H' hD s1 hl => ?_)⟩
    · obtain ⟨rfl, hx⟩ := y
      cases Option.some.inj (hz.symm.trans hx)
      obtain ⟨j, _, e⟩ := List.mem_map.mp (List.mem_of_getElem? hz)
      exact ⟨rfl, _, rfl, _, rfl, _, _, rfl, by rw [← e]; exact .int j, k _ (Same.refl _)⟩
    · refine ⟨D, ((NI l).map V.int).map (fun x => inB x 0 ((n : Int) - 1)), rfl, SqL.of (by rw [hl, List.map_map, List.map_map, List.map_map]; rfl), _, rfl, ifn0 ?_ ?_⟩
      · rw [List.all_eq_true]
        intro b hb
        obtain ⟨x, hx, rfl⟩ := List.mem_map.mp hb
        obtain ⟨j, hj, rfl⟩ := List.mem_map.mp hx
        obtain ⟨m, hm, rfl⟩ := List.mem_map.mp hj
        have := ho.lt hm
        exact inB_of (by omega) (by omega)
      · have h1 := s1 _ _ h
        refine ⟨_, rfl, a, NI l, rfl, SqT.of h1, by rw [List.length_map] at el; omega, fun ms p hp hw np => ?_⟩
        have em : ms = NI (List.range n) := PySem.W.ksm_same (hp.trans (List.Perm.map _ ho)) hw (range_le n)
        subst em
        refine ⟨_, rfl, n, rfl, RgOk.of_le (by omega) (by omega) (by omega) (by omega), fun r nr => ?_⟩
        rw [rg0] at *
        have nrp : p ≠ r := ne_of_none (upd_same) nr
        refine ⟨.list (dI (NI (List.range n))), .list (dI (NI (List.range n))), dp_listI (by rw [upd_ne nrp]; exact upd_same), dp_listI upd_same, shaped_listI _, shaped_listI _, ?_⟩
        rw [eqv_listI]
        exact q _ ((s1.trans (sn np)).trans (sn nr))
/-! is_size: slots 0=thing -/
def sp_is_size : Sp := fun vs H Q _ => ∃ (v : V) (x y : Int), vs = [v] ∧ TI H v [x, y] ∧ 1 ≤ x ∧ x ≤ 1000 ∧ 1 ≤ y ∧ y ≤ 1000 ∧ Q (.bl true) H
theorem sc_is_size : FnScope ["thing"] ["thing"] (defScope (top 19)) := ⟨rfl, rfl, rfl, by decide +kernel, rfl, by decide +kernel, by decide +kernel⟩
theorem ok_is_size {P : Program} {w : World} {K : PySem.W.Frag} {mg : Str → Option Value} {base : Heap} (T : Tx K mg) : Fn P w K mg base "is_size" 3 ["thing"] (sp_is_size) := by
  refine mkFn (k := 2) T.t_is_size sc_is_size (fun vs H Q E h => ?_) (fun _ _ _ _ _ _ us hl => match us, hl with | [_], _ => rfl) (fun f cdv A outer s H vs Q E hr h => ?_)
  · obtain ⟨v, x, y, rfl, ⟨a, rfl, h⟩, h1, h2, h3, h4, q⟩ := h <;> rfl
  · refine ⟨_, (pss_one (ps_ret (pe_and (cl (ok_is_pair T) (hr.mono (by decide)) rfl (pa_cons (pv 0) pa_nil)) (pe_and (cl (ok_is_within T) (hr.mono (by decide)) rfl (pa_cons (pe_ix (k_ixT (K := K) rfl) (pv 0) pe_int (fun _ _ => rfl)) (pa_cons pe_int (pa_cons (pe_gi rfl T.c_MOST_SIZE) pa_nil)))) (pe_one (cl (ok_is_within T) (hr.mono (by decide)) rfl (pa_cons (pe_ix (k_ixT (K := K) rfl) (pv 0) pe_int (fun _ _ => rfl)) (pa_cons pe_int (pa_cons (pe_gi rfl T.c_MOST_SIZE) pa_nil))))))))), ?_⟩
    obtain ⟨v, x, y, rfl, ⟨a, rfl, h⟩, h1, h2, h3, h4, q⟩ := h
    refine ⟨_, rfl, a, _, rfl, h, _, rfl, iteT ⟨_, rfl, a, _, 0, .int x, rfl, rfl, SqT.of h, atI_nat (j := 0) rfl, _, _, _, rfl, .int x, _, rfl, if1 (inB_of h1 h2) ?_⟩⟩
    refine ⟨_, rfl, a, _, 1, .int y, rfl, rfl, SqT.of h, atI_nat (j := 1) rfl, _, _, _, rfl, .int y, ?_⟩
    exact qb (inB_of h3 h4) q
end K20

namespace K20
open PySem PySem.Spec PyProof.Rows L2
theorem at_lt {α : Type} {l : List α} {i : Nat} (h : i < l.length) : ∃ x, l[i]? = some x := ⟨_, List.getElem?_eq_getElem h⟩
theorem lt_at {α : Type} {l : List α} {i : Nat} {x : α} (h : l[i]? = some x) : i < l.length := (List.getElem?_eq_some_iff.mp h).1
theorem walk_rg {n : Nat} : Walk (Itr 0 n) n (fun _ => True) (YFn fun i => .int (i : Nat)) :=
  walk_range.mono (fun _ h => h) fun _ _ _ _ _ _ y => ⟨y.1, y.2.trans (congrArg V.int (Int.zero_add _))⟩
theorem walk_rgl {n : Nat} : Walk (Itr 0 n) (List.range n).length (fun _ => True) (YFn fun i => .int (i : Nat)) := by
  rw [List.length_range]
  exact walk_rg
theorem walk_r2 {a b : Nat} : Walk (Itr ((a : Nat) : Int) (((b : Nat) : Int) - ((a : Nat) : Int)).toNat) (List.range' a (b - a)).length (fun _ => True) (YFn fun m => .int ((a + m : Nat) : Int)) := by
  rw [List.length_range']
  have e : (((b : Nat) : Int) - ((a : Nat) : Int)).toNat = b - a := by omega
  rw [e]
  exact walk_range.mono (fun _ h => h) fun _ _ _ _ _ _ y => ⟨y.1, y.2.trans (congrArg V.int (by show (a : Int) + _ = _; omega))⟩
theorem get_range {n i z : Nat} (h : (List.range n)[i]? = some z) : z = i ∧ i < n := by
  have h1 := lt_at h
  rw [List.length_range] at h1
  rw [List.getElem?_range h1] at h
  exact ⟨(Option.some.inj h).symm, h1⟩
theorem get_range2 {a k m z : Nat} (h : (List.range' a k)[m]? = some z) : z = a + m ∧ m < k := by
  have h1 := lt_at h
  rw [List.length_range'] at h1
  rw [List.getElem?_range' h1, Nat.one_mul] at h
  exact ⟨(Option.some.inj h).symm, h1⟩
theorem prd_get {α β : Type} {F : α → β → Prop} : ∀ {xs : List α} {ys : List β}, Paired F xs ys → ∀ {i : Nat} {y : β}, ys[i]? = some y → ∃ x, xs[i]? = some x ∧ F x y
  | _, _, .nil, _, _, h => by cases h
  | _, _, .cons r _, 0, _, h => by
    cases Option.some.inj h
    exact ⟨_, rfl, r⟩
  | _, _, .cons _ t, i + 1, _, h => prd_get t h
/-- two stretches have more than an edge in common -/
def meetB (b l c m : Int) : Bool := decide (b < c + m) && decide (c < b + l)
theorem bandR {Q : VK} {H : Hp} {a b : Bool} (h1 : a = true → Q (.bl b) H) (h2 : a = false → Q (.bl false) H) : Q (.bl (a && b)) H := by
  cases a with
  | true => exact h1 rfl
  | false => exact h2 rfl
/-! meet: slots 0=begin 1=length 2=other_begin 3=other_length -/
def sp_meet : Sp := fun vs H Q _ => ∃ b l c m : Int, vs = [.int b, .int l, .int c, .int m] ∧ Q (.bl (meetB b l c m)) H
theorem sc_meet : FnScope ["begin", "length", "other_begin", "other_length"] ["begin", "length", "other_begin", "other_length"] (defScope (top 22)) := ⟨rfl, rfl, rfl, by decide +kernel, rfl, by decide +kernel, by decide +kernel⟩
theorem ok_meet {P : Program} {w : World} {K : PySem.W.Frag} {mg : Str → Option Value} {base : Heap} (T : Tx K mg) : Fn P w K mg base "meet" 1 ["begin", "length", "other_begin", "other_length"] (sp_meet) := by
  refine mkFn (k := 0) T.t_meet sc_meet (fun vs H Q E h => ?_) (fun _ _ _ _ _ _ us hl => match us, hl with | [_, _, _, _], _ => rfl) (fun f cdv A outer s H vs Q E hr h => ?_)
  · obtain ⟨b, l, c, m, rfl, q⟩ := h <;> rfl
  · refine ⟨_, (pss_one (ps_ret (pe_and (pe_cmpR op_lt (pv 0) (pe_op op_add (pv 2) (pv 3)) (nomark _)) (pe_one (pe_cmpR op_lt (pv 2) (pe_op op_add (pv 0) (pv 1)) (nomark _)))))), ?_⟩
    obtain ⟨b, l, c, m, rfl, q⟩ := h
    refine ⟨_, rfl, _, rfl, _, rfl, _, _, rfl, rfl, _, _, rfl, rfl, _, rfl, ite2 (fun z => ?_) (fun z => ?_)⟩
    · refine ⟨_, rfl, _, rfl, _, rfl, _, _, rfl, rfl, _, _, rfl, rfl, qb ?_ q⟩
      unfold meetB
      rw [z]
      rfl
    · refine qb ?_ q
      unfold meetB
      rw [Bool.not_eq_true] at z
      rw [z]
      rfl
/-! in_row: slots 0=boxes 1=places 2=one 3=other -/
def sp_in_row (K : PySem.W.Frag) : Sp := fun vs H Q _ => ∃ (v u : V) (i j : Nat) (ss ps : List (Int × Int)) (p q s r : Int × Int), vs = [v, u, .int (i : Nat), .int (j : Nat)] ∧ BX K H v ss ∧ TP H u ps ∧ ps[i]? = some p ∧ ps[j]? = some q ∧ ss[i]? = some s ∧ ss[j]? = some r ∧
  Q (.bl (meetB p.2 s.2 q.2 r.2)) H
theorem sc_in_row : FnScope ["boxes", "places", "one", "other"] ["boxes", "places", "one", "other"] (defScope (top 23)) := ⟨rfl, rfl, rfl, by decide +kernel, rfl, by decide +kernel, by decide +kernel⟩
theorem ok_in_row {P : Program} {w : World} {K : PySem.W.Frag} {mg : Str → Option Value} {base : Heap} (T : Tx K mg) : Fn P w K mg base "in_row" 2 ["boxes", "places", "one", "other"] (sp_in_row K) := by
  refine mkFn (k := 1) T.t_in_row sc_in_row (fun vs H Q E h => ?_) (fun _ _ _ _ _ _ us hl => match us, hl with | [_, _, _, _], _ => rfl) (fun f cdv A outer s H vs Q E hr h => ?_)
  · obtain ⟨v, u, i, j, ss, ps, p, q, s, r, rfl, ⟨b, dx, _, rfl, hb, ta, tv, rfl, ht, hP⟩, ⟨pa, pw, rfl, hp, hQ⟩, e1, e2, e3, e4, k⟩ := h <;> rfl
  · refine ⟨_, (pss_one (ps_ret (cl (ok_meet T) (hr.mono (by decide)) rfl (pa_cons (pe_ix (k_ixT (K := K) rfl) (pe_ix (k_ixT (K := K) rfl) (pv 1) (pv 2) (fun _ _ => rfl)) pe_int (fun _ _ => rfl)) (pa_cons (pe_ix (k_ixT (K := K) rfl) (pe_ix (k_ixT (K := K) rfl) (k_fld (K := K) rfl (pv 0) rfl) (pv 2) (fun _ _ => rfl)) pe_int (fun _ _ => rfl)) (pa_cons (pe_ix (k_ixT (K := K) rfl) (pe_ix (k_ixT (K := K) rfl) (pv 1) (pv 3) (fun _ _ => rfl)) pe_int (fun _ _ => rfl)) (pa_cons (pe_ix (k_ixT (K := K) rfl) (pe_ix (k_ixT (K := K) rfl) (k_fld (K := K) rfl (pv 0) rfl) (pv 3) (fun _ _ => rfl)) pe_int (fun _ _ => rfl)) pa_nil))))))), ?_⟩
    obtain ⟨v, u, i, j, ss, ps, p, q, s, r, rfl, ⟨b, dx, _, rfl, hb, ta, tv, rfl, ht, hP⟩, ⟨pa, pw, rfl, hp, hQ⟩, e1, e2, e3, e4, k⟩ := h
    obtain ⟨_, f1, c1, rfl, g1⟩ := prd_get hQ e1
    obtain ⟨_, f2, c2, rfl, g2⟩ := prd_get hQ e2
    obtain ⟨_, f3, c3, rfl, g3⟩ := prd_get hP e3
    obtain ⟨_, f4, c4, rfl, g4⟩ := prd_get hP e4
    refine ⟨_, rfl, _, rfl, pa, _, _, .ref c1, rfl, rfl, SqT.of hp, atI_nat f1, c1, _, 1, _, rfl, rfl, SqT.of g1, atI_nat (j := 1) rfl, ?_⟩
    refine ⟨_, rfl, b, _, dx, _, _, rfl, hb, T.clB, T.nS, bF_sizes _ _, _, rfl, ta, _, _, .ref c3, rfl, rfl, SqT.of ht, atI_nat f3, c3, _, 1, _, rfl, rfl, SqT.of g3, atI_nat (j := 1) rfl, ?_⟩
    refine ⟨_, rfl, _, rfl, pa, _, _, .ref c2, rfl, rfl, SqT.of hp, atI_nat f2, c2, _, 1, _, rfl, rfl, SqT.of g2, atI_nat (j := 1) rfl, ?_⟩
    exact ⟨_, rfl, b, _, dx, _, _, rfl, hb, T.clB, T.nS, bF_sizes _ _, _, rfl, ta, _, _, .ref c4, rfl, rfl, SqT.of ht, atI_nat f4, c4, _, 1, _, rfl, rfl, SqT.of g4, atI_nat (j := 1) rfl, _, _, _, _, rfl, k⟩
/-! in_column: slots 0=boxes 1=places 2=one 3=other -/
def sp_in_column (K : PySem.W.Frag) : Sp := fun vs H Q _ => ∃ (v u : V) (i j : Nat) (ss ps : List (Int × Int)) (p q s r : Int × Int), vs = [v, u, .int (i : Nat), .int (j : Nat)] ∧ BX K H v ss ∧ TP H u ps ∧ ps[i]? = some p ∧ ps[j]? = some q ∧ ss[i]? = some s ∧ ss[j]? = some r ∧
  Q (.bl (meetB p.1 s.1 q.1 r.1)) H
theorem sc_in_column : FnScope ["boxes", "places", "one", "other"] ["boxes", "places", "one", "other"] (defScope (top 24)) := ⟨rfl, rfl, rfl, by decide +kernel, rfl, by decide +kernel, by decide +kernel⟩
theorem ok_in_column {P : Program} {w : World} {K : PySem.W.Frag} {mg : Str → Option Value} {base : Heap} (T : Tx K mg) : Fn P w K mg base "in_column" 2 ["boxes", "places", "one", "other"] (sp_in_column K) := by
  refine mkFn (k := 1) T.t_in_column sc_in_column (fun vs H Q E h => ?_) (fun _ _ _ _ _ _ us hl => match us, hl with | [_, _, _, _], _ => rfl) (fun f cdv A outer s H vs Q E hr h => ?_)
  · obtain ⟨v, u, i, j, ss, ps, p, q, s, r, rfl, ⟨b, dx, _, rfl, hb, ta, tv, rfl, ht, hP⟩, ⟨pa, pw, rfl, hp, hQ⟩, e1, e2, e3, e4, k⟩ := h <;> rfl
  · refine ⟨_, (pss_one (ps_ret (cl (ok_meet T) (hr.mono (by decide)) rfl (pa_cons (pe_ix (k_ixT (K := K) rfl) (pe_ix (k_ixT (K := K) rfl) (pv 1) (pv 2) (fun _ _ => rfl)) pe_int (fun _ _ => rfl)) (pa_cons (pe_ix (k_ixT (K := K) rfl) (pe_ix (k_ixT (K := K) rfl) (k_fld (K := K) rfl (pv 0) rfl) (pv 2) (fun _ _ => rfl)) pe_int (fun _ _ => rfl)) (pa_cons (pe_ix (k_ixT (K := K) rfl) (pe_ix (k_ixT (K := K) rfl) (pv 1) (pv 3) (fun _ _ => rfl)) pe_int (fun _ _ => rfl)) (pa_cons (pe_ix (k_ixT (K := K) rfl) (pe_ix (k_ixT (K := K) rfl) (k_fld (K := K) rfl (pv 0) rfl) (pv 3) (fun _ _ => rfl)) pe_int (fun _ _ => rfl)) pa_nil))))))), ?_⟩
    obtain ⟨v, u, i, j, ss, ps, p, q, s, r, rfl, ⟨b, dx, _, rfl, hb, ta, tv, rfl, ht, hP⟩, ⟨pa, pw, rfl, hp, hQ⟩, e1, e2, e3, e4, k⟩ := h
    obtain ⟨_, f1, c1, rfl, g1⟩ := prd_get hQ e1
    obtain ⟨_, f2, c2, rfl, g2⟩ := prd_get hQ e2
    obtain ⟨_, f3, c3, rfl, g3⟩ := prd_get hP e3
    obtain ⟨_, f4, c4, rfl, g4⟩ := prd_get hP e4
    refine ⟨_, rfl, _, rfl, pa, _, _, .ref c1, rfl, rfl, SqT.of hp, atI_nat f1, c1, _, 0, _, rfl, rfl, SqT.of g1, atI_nat (j := 0) rfl, ?_⟩
    refine ⟨_, rfl, b, _, dx, _, _, rfl, hb, T.clB, T.nS, bF_sizes _ _, _, rfl, ta, _, _, .ref c3, rfl, rfl, SqT.of ht, atI_nat f3, c3, _, 0, _, rfl, rfl, SqT.of g3, atI_nat (j := 0) rfl, ?_⟩
    refine ⟨_, rfl, _, rfl, pa, _, _, .ref c2, rfl, rfl, SqT.of hp, atI_nat f2, c2, _, 0, _, rfl, rfl, SqT.of g2, atI_nat (j := 0) rfl, ?_⟩
    exact ⟨_, rfl, b, _, dx, _, _, rfl, hb, T.clB, T.nS, bF_sizes _ _, _, rfl, ta, _, _, .ref c4, rfl, rfl, SqT.of ht, atI_nat f4, c4, _, 0, _, rfl, rfl, SqT.of g4, atI_nat (j := 0) rfl, _, _, _, _, rfl, k⟩
/-! overlap: slots 0=boxes 1=places 2=one 3=other -/
def sp_overlap (K : PySem.W.Frag) : Sp := fun vs H Q _ => ∃ (v u : V) (i j : Nat) (ss ps : List (Int × Int)) (p q s r : Int × Int), vs = [v, u, .int (i : Nat), .int (j : Nat)] ∧ BX K H v ss ∧ TP H u ps ∧ ps[i]? = some p ∧ ps[j]? = some q ∧ ss[i]? = some s ∧ ss[j]? = some r ∧
  Q (.bl (meetB p.2 s.2 q.2 r.2 && meetB p.1 s.1 q.1 r.1)) H
theorem sc_overlap : FnScope ["boxes", "places", "one", "other"] ["boxes", "places", "one", "other"] (defScope (top 25)) := ⟨rfl, rfl, rfl, by decide +kernel, rfl, by decide +kernel, by decide +kernel⟩
theorem ok_overlap {P : Program} {w : World} {K : PySem.W.Frag} {mg : Str → Option Value} {base : Heap} (T : Tx K mg) : Fn P w K mg base "overlap" 3 ["boxes", "places", "one", "other"] (sp_overlap K) := by
  refine mkFn (k := 2) T.t_overlap sc_overlap (fun vs H Q E h => ?_) (fun _ _ _ _ _ _ us hl => match us, hl with | [_, _, _, _], _ => rfl) (fun f cdv A outer s H vs Q E hr h => ?_)
  · obtain ⟨v, u, i, j, ss, ps, p, q, s, r, rfl, hB, hT, e1, e2, e3, e4, k⟩ := h <;> rfl
  · refine ⟨_, (pss_one (ps_ret (pe_and (cl (ok_in_row T) (hr.mono (by decide)) rfl (pa_cons (pv 0) (pa_cons (pv 1) (pa_cons (pv 2) (pa_cons (pv 3) pa_nil))))) (pe_one (cl (ok_in_column T) (hr.mono (by decide)) rfl (pa_cons (pv 0) (pa_cons (pv 1) (pa_cons (pv 2) (pa_cons (pv 3) pa_nil))))))))), ?_⟩
    obtain ⟨v, u, i, j, ss, ps, p, q, s, r, rfl, hB, hT, e1, e2, e3, e4, k⟩ := h
    refine ⟨_, rfl, _, rfl, _, rfl, _, rfl, v, u, i, j, ss, ps, p, q, s, r, rfl, hB, hT, e1, e2, e3, e4, _, rfl, ite2 (fun z => ?_) (fun z => ?_)⟩
    · refine ⟨_, rfl, _, rfl, _, rfl, _, rfl, v, u, i, j, ss, ps, p, q, s, r, rfl, hB, hT, e1, e2, e3, e4, qb ?_ k⟩
      rw [z]
      rfl
    · refine qb ?_ k
      rw [Bool.not_eq_true] at z
      rw [z]
      rfl
/-- no two of the boxes overlap -/
def Clear (ss ps : List (Int × Int)) : Prop := ps.length = ss.length ∧ ∀ (i j : Nat) (p q s r : Int × Int), i < j → ps[i]? = some p → ps[j]? = some q → ss[i]? = some s → ss[j]? = some r → (meetB p.2 s.2 q.2 r.2 && meetB p.1 s.1 q.1 r.1) = false
/-! are_places: slots 0=boxes 1=thing 2=place -/
def sp_are_places (K : PySem.W.Frag) : Sp := fun vs H Q _ => ∃ (v u : V) (ss ps : List (Int × Int)), vs = [v, u] ∧ BX K H v ss ∧ TP H u ps ∧ ps.length = ss.length ∧ ss.length ≤ 40 ∧ ∀ H', Same H H' → Q (.bl true) H'
theorem sc_are_places : FnScope ["boxes", "thing", "place"] ["boxes", "thing"] (defScope (top 21)) := ⟨rfl, rfl, rfl, by decide +kernel, rfl, by decide +kernel, by decide +kernel⟩
theorem ok_are_places {P : Program} {w : World} {K : PySem.W.Frag} {mg : Str → Option Value} {base : Heap} (T : Tx K mg) : Fn P w K mg base "are_places" 3 ["boxes", "thing"] (sp_are_places K) := by
  refine mkFn (k := 2) T.t_are_places sc_are_places (fun vs H Q E h => ?_) (fun _ _ _ _ _ _ us hl => match us, hl with | [_, _], _ => rfl) (fun f cdv A outer s H vs Q E hr h => ?_)
  · obtain ⟨v, u, ss, ps, rfl, ⟨b, dx, _, rfl, hb, ta, tv, rfl, ht, hP⟩, ⟨pa, pw, rfl, hp, hQ⟩, el, h40, k⟩ := h <;> rfl
  · refine ⟨_, (pss_one (ps_ret (pe_and (cl (ok_is_sized T) (hr.mono (by decide)) rfl (pa_cons (pv 1) (pa_cons (k_fld (K := K) rfl (pv 0) rfl) (pa_cons (k_fld (K := K) rfl (pv 0) rfl) pa_nil)))) (pe_one (pe_callB (k_all (K := K) rfl rfl) rfl T.f_all b_all (pa_cons (pe_lc (own := [("place", 2)]) (g := (gName 2)) (tt := tYes) rfl sc_are_places.nd (k_pt (K := K) rfl (pv 1)) (blkOk_by (N := ["boxes", "thing", "place"]) (sc := defScope (top 21)) (by decide +kernel)) (fun _ _ _ _ _ => (pg_name (i := 2) sc_are_places.nd rfl (by first | exact Or.inl rfl | exact Or.inr rfl))) (fun _ _ _ _ _ => pts_nil) (fun _ _ _ _ _ => (cl (ok_are_integers T) (hr.mono (by decide)) rfl (pa_cons (pv 2) (pa_cons pe_int pa_nil))))) pa_nil)))))), ?_⟩
    obtain ⟨v, u, ss, ps, rfl, ⟨b, dx, _, rfl, hb, ta, tv, rfl, ht, hP⟩, ⟨pa, pw, rfl, hp, hQ⟩, el, h40, k⟩ := h
    have lw := Paired.length hQ
    refine ⟨_, rfl, _, rfl, b, _, dx, _, _, rfl, hb, T.clB, T.nM, bF_many _ _, _, rfl, b, _, dx, _, _, rfl, hb, T.clB, T.nM, bF_many _ _, .inl ⟨pa, _, _, _, rfl, hp, _, rfl, if1 (dand (dle (by omega)) (dle (by omega))) ?_⟩⟩
    refine ⟨_, rfl, pa, rfl, ⟨_, SqT.of hp⟩, lc_map pw (fun _ => .bl true) walk_tup (by omega) (fun H' s => SqT.of (s _ _ hp)) (fun i z x H' H'' hz s1 y Qt kk => ?_) (fun D H' hD s1 hl => ?_)⟩
    · obtain ⟨rfl, hx⟩ := y
      cases Option.some.inj (hz.symm.trans hx)
      obtain ⟨p, e1, c, rfl, g⟩ := paired_at hQ hz
      exact ⟨rfl, _, rfl, .inl ⟨c, _, 2, rfl, s1 _ _ g, by decide, fun x hx => by
        rcases List.mem_cons.mp hx with e | hx
        · rw [e]; exact .int _
        · rw [List.mem_singleton.mp hx]; exact .int _, fun H4 s4 => kk H4 s4⟩⟩
    · refine ⟨D, pw.map fun _ => true, rfl, SqL.of (by rw [hl, List.map_map]; rfl), qb ?_ (k H' s1)⟩
      rw [List.all_map, List.all_eq_true]
      intro _ _
      rfl
/-! all_overlaps: slots 0=boxes 1=places 2=found 3=one 4=other -/
def sp_all_overlaps (K : PySem.W.Frag) : Sp := fun vs H Q _ => ∃ (v u : V) (ss ps : List (Int × Int)), vs = [v, u] ∧ BX K H v ss ∧ TP H u ps ∧ Clear ss ps ∧ ss.length ≤ 40 ∧ ∀ H' D, Same H H' → H' D = some (.lst []) → Q (.ref D) H'
theorem sc_all_overlaps : FnScope ["boxes", "places", "found", "one", "other"] ["boxes", "places"] (defScope (top 26)) := ⟨rfl, rfl, rfl, by decide +kernel, rfl, by decide +kernel, by decide +kernel⟩
theorem ok_all_overlaps {P : Program} {w : World} {K : PySem.W.Frag} {mg : Str → Option Value} {base : Heap} (T : Tx K mg) : Fn P w K mg base "all_overlaps" 4 ["boxes", "places"] (sp_all_overlaps K) := by
  refine mkFn (k := 3) T.t_all_overlaps sc_all_overlaps (fun vs H Q E h => ?_) (fun _ _ _ _ _ _ us hl => match us, hl with | [_, _], _ => rfl) (fun f cdv A outer s H vs Q E hr h => ?_)
  · obtain ⟨v, u, ss, ps, rfl, hB, hT, ⟨el, hC⟩, h40, k⟩ := h <;> rfl
  · refine ⟨_, (pss_cons (ps_set (i := 2) sc_all_overlaps.nd rfl (by first | exact Or.inl rfl | exact Or.inr rfl) (pe_lst pa_nil))
        (pss_cons (ps_for PassesOwn.never rfl (pi_range1 rfl T.f_range (pa_cons (k_fld (K := K) rfl (pv 0) rfl) pa_nil)) (pg_name (i := 3) sc_all_overlaps.nd rfl (by first | exact Or.inl rfl | exact Or.inr rfl)) (pss_one (ps_expr (k_bm (K := K) rfl PySem.F.plainAttrs_list PySem.F.slot_list_extend PySem.F.type_list_extend mt_extend (pv 2) (pa_cons (pe_lc (own := [("other", 4)]) (g := (gName 4)) rfl sc_all_overlaps.nd (pi_range2 rfl T.f_range (pa_cons (pe_op op_add (pv 3) pe_int) (pa_cons (k_fld (K := K) rfl (pv 0) rfl) pa_nil))) (blkOk_by (N := ["boxes", "places", "found", "one", "other"]) (sc := defScope (top 26)) (by decide +kernel)) (fun _ _ _ _ _ => (pg_name (i := 4) sc_all_overlaps.nd rfl (by first | exact Or.inl rfl | exact Or.inr rfl))) (fun _ _ _ _ _ => (pts_one (pt_val (cl (ok_overlap T) (hr.mono (by decide)) rfl (pa_cons (pv 0) (pa_cons (pv 1) (pa_cons (pv 3) (pa_cons (pv 4) pa_nil)))))))) (fun _ _ _ _ _ => (pe_tup (pa_cons (pv 3) (pa_cons (pv 4) pa_nil))))) pa_nil)))))
        (pss_one (ps_ret (pv 2))))), ?_⟩
    obtain ⟨v, u, ss, ps, rfl, hB, hT, ⟨el, hC⟩, h40, k⟩ := h
    refine ⟨Nat.zero_le _, fun D nD => ?_⟩
    have s0 := sn (o := .lst []) nD
    obtain ⟨b, dx, t, rfl, hb, hts⟩ := id hB
    refine ⟨_, rfl, b, _, dx, _, _, rfl, s0 _ _ hb, T.clB, T.nM, bF_many _ _, ss.length, rfl, by omega, by omega, for_it walk_rg (fun _ σ H' => ∃ v3, σ = [some (.ref b), some u, some (.ref D), v3, none] ∧ Same H H' ∧ H' D = some (.lst []))
      ⟨none, rfl, s0, upd_same⟩ (fun _ _ _ _ _ => True.intro) (fun i x σ H1 H2 hi p y => ?_) (fun σ H1 p => ?_)⟩
    · obtain ⟨v3, rfl, s1, hl⟩ := p
      obtain ⟨rfl, rfl⟩ := y
      have hB1 := hB.up (kp s1)
      have hT1 := hT.up (kp s1)
      refine ⟨_, rfl, .inl ⟨rfl, _, SqL.of hl⟩, _, rfl, _, _, rfl, rfl, _, rfl, b, _, dx, _, _, rfl, s1 _ _ hb, T.clB, T.nM, bF_many _ _, ((i + 1 : Nat) : Int), ss.length, rfl, ⟨by omega, by omega, by omega, by omega⟩, ?_⟩
      refine lc_filt (List.range' (i + 1) (ss.length - (i + 1))) (fun _ => false) (fun _ => .non) walk_r2 (by rw [List.length_range']; omega) (fun _ _ => True.intro) (fun m z x H3 H4 hz s3 y Qt Qf k1 k2 => ?_) (fun F H3 nF s3 hF => ?_)
      · obtain ⟨rfl, rfl⟩ := y
        obtain ⟨rfl, hm⟩ := get_range2 hz
        obtain ⟨p, e1⟩ := at_lt (l := ps) (i := i) (by omega)
        obtain ⟨q, e2⟩ := at_lt (l := ps) (i := i + 1 + m) (by omega)
        obtain ⟨s, e3⟩ := at_lt (l := ss) (i := i) (by omega)
        obtain ⟨r, e4⟩ := at_lt (l := ss) (i := i + 1 + m) (by omega)
        refine ⟨rfl, _, rfl, _, rfl, _, rfl, _, rfl, _, _, i, i + 1 + m, ss, ps, p, q, s, r, rfl, hB1.up (kp s3), hT1.up (kp s3), e1, e2, e3, e4, _, rfl, if0 (hC i (i + 1 + m) p q s r (by omega) e1 e2 e3 e4) ?_⟩
        exact k2 _ (Same.refl _) rfl
      · have hD := s3 _ _ hl
        have e0 : (List.filter (fun _ => false) (List.range' (i + 1) (ss.length - (i + 1)))).map (fun _ => V.non) = [] := by simp
        refine ⟨D, F, [], _, rfl, rfl, hD, hF, by rw [e0]; exact Nat.zero_le _, _, rfl, same_mut (s1.trans s3) nD, ?_⟩
        rw [e0]
        exact upd_same
    · obtain ⟨v3, rfl, s1, hl⟩ := p
      exact ⟨_, rfl, k _ _ s1 hl⟩
/-! is_shown: slots 0=boxes 1=thing -/
def sp_is_shown (K : PySem.W.Frag) : Sp := fun vs H Q _ => ∃ (v u : V) (ss ps : List (Int × Int)), vs = [v, u] ∧ BX K H v ss ∧ TP H u ps ∧ Clear ss ps ∧ ss.length ≤ 40 ∧ ∀ H', Same H H' → Q (.bl true) H'
theorem sc_is_shown : FnScope ["boxes", "thing"] ["boxes", "thing"] (defScope (top 27)) := ⟨rfl, rfl, rfl, by decide +kernel, rfl, by decide +kernel, by decide +kernel⟩
theorem ok_is_shown {P : Program} {w : World} {K : PySem.W.Frag} {mg : Str → Option Value} {base : Heap} (T : Tx K mg) : Fn P w K mg base "is_shown" 5 ["boxes", "thing"] (sp_is_shown K) := by
  refine mkFn (k := 4) T.t_is_shown sc_is_shown (fun vs H Q E h => ?_) (fun _ _ _ _ _ _ us hl => match us, hl with | [_, _], _ => rfl) (fun f cdv A outer s H vs Q E hr h => ?_)
  · obtain ⟨v, u, ss, ps, rfl, hB, hT, hC, h40, k⟩ := h <;> rfl
  · refine ⟨_, (pss_one (ps_ret (pe_and (cl (ok_are_places T) (hr.mono (by decide)) rfl (pa_cons (pv 0) (pa_cons (pv 1) pa_nil))) (pe_one (pe_cmpR op_eq (pe_callB (k_len (K := K) rfl) rfl T.f_len b_len (pa_cons (cl (ok_all_overlaps T) (hr.mono (by decide)) rfl (pa_cons (pv 0) (pa_cons (pv 1) pa_nil))) pa_nil)) pe_int (nomark _)))))), ?_⟩
    obtain ⟨v, u, ss, ps, rfl, hB, hT, hC, h40, k⟩ := h
    refine ⟨_, rfl, _, rfl, v, u, ss, ps, rfl, hB, hT, hC.1, h40, fun H1 s1 => ⟨_, rfl, iteT ?_⟩⟩
    refine ⟨_, rfl, _, rfl, v, u, ss, ps, rfl, hB.up (kp s1), hT.up (kp s1), hC, h40, fun H2 D s2 hD => ⟨D, [], rfl, .inl (SqL.of hD), rfl, qb ?_ (k H2 (s1.trans s2))⟩⟩
    exact decide_eq_true rfl
/-! check_picture: slots 0=boxes 1=thing -/
def sp_check_picture (K : PySem.W.Frag) : Sp := fun vs H Q _ => ∃ (v u : V) (ss ps : List (Int × Int)), vs = [v, u] ∧ BX K H v ss ∧ TP H u ps ∧ Clear ss ps ∧ ss.length ≤ 40 ∧ ∀ H', Same H H' → Q .non H'
theorem sc_check_picture : FnScope ["boxes", "thing"] ["boxes", "thing"] (defScope (top 28)) := ⟨rfl, rfl, rfl, by decide +kernel, rfl, by decide +kernel, by decide +kernel⟩
theorem ok_check_picture {P : Program} {w : World} {K : PySem.W.Frag} {mg : Str → Option Value} {base : Heap} (T : Tx K mg) : Fn P w K mg base "check_picture" 6 ["boxes", "thing"] (sp_check_picture K) := by
  refine mkFn (k := 5) T.t_check_picture sc_check_picture (fun vs H Q E h => ?_) (fun _ _ _ _ _ _ us hl => match us, hl with | [_, _], _ => rfl) (fun f cdv A outer s H vs Q E hr h => ?_)
  · obtain ⟨v, u, ss, ps, rfl, hB, hT, hC, h40, k⟩ := h <;> rfl
  · refine ⟨_, (pss_one (ps_if (pt_not (pt_val (cl (ok_is_shown T) (hr.mono (by decide)) rfl (pa_cons (pv 0) (pa_cons (pv 1) pa_nil))))) pss_never pss_nil)), ?_⟩
    obtain ⟨v, u, ss, ps, rfl, hB, hT, hC, h40, k⟩ := h
    exact ⟨_, rfl, _, rfl, v, u, ss, ps, rfl, hB, hT, hC, h40, fun H1 s1 => ⟨_, rfl, ifn0 rfl (k H1 s1)⟩⟩
end K20

namespace K20
open PySem PySem.Spec PyProof.Rows L2
/-- the word of a way -/
def wS (lv : Bool) : Str := if lv = true then "level" else "upright"
theorem wS_tl : decide (V.str (wS true) = V.str "level") = true := by decide +kernel
theorem wS_fl : decide (V.str (wS false) = V.str "level") = false := by decide +kernel
theorem wS_tu : decide (V.str (wS true) = V.str "upright") = false := by decide +kernel
theorem wS_fu : decide (V.str (wS false) = V.str "upright") = true := by decide +kernel
/-- a stroke -/
def ST (H : Hp) (v : V) (st : Bool × List Int) : Prop := ∃ a u, v = .ref a ∧ H a = some (.tup [.str (wS st.1), u]) ∧ TI H u st.2
theorem ST.up {H H' : Hp} {v : V} {st : Bool × List Int} (h : ST H v st) (k : Kp H H') : ST H' v st := by
  obtain ⟨a, u, e, h, q⟩ := h
  exact ⟨a, u, e, k.tup h, q.up k⟩
/-- the places behind a stroke -/
def bh1 (lv : Bool) (g : Int) (p : Int × Int) : Int × Int := if lv = true then (g, p.2) else (p.1, g)
def bhd (st : Bool × List Int) (ps : List (Int × Int)) : List (Int × Int) := List.zipWith (bh1 st.1) st.2 ps
theorem bhd_len {st : Bool × List Int} {ps : List (Int × Int)} (h : st.2.length = ps.length) : (bhd st ps).length = ps.length := by
  unfold bhd
  rw [List.length_zipWith]
  omega
theorem bhd_get {st : Bool × List Int} {ps : List (Int × Int)} {i : Nat} {z : Int × Int} (h : (bhd st ps)[i]? = some z) : ∃ g p, st.2[i]? = some g ∧ ps[i]? = some p ∧ z = bh1 st.1 g p := by
  unfold bhd at h
  rw [List.getElem?_zipWith] at h
  cases e1 : st.2[i]? with
  | none => rw [e1] at h; cases h
  | some g =>
    cases e2 : ps[i]? with
    | none => rw [e1, e2] at h; cases h
    | some p =>
      rw [e1, e2] at h
      exact ⟨g, p, rfl, rfl, (Option.some.inj h).symm⟩
theorem walk_zipT {K : PySem.W.Frag} {a b : Addr} {xs ys : List V} {n : Nat} (hn : n = min xs.length ys.length) : Walk (RZ.ItzT K a b) n (fun H => SqT K H a xs ∧ SqT K H b ys) (YPair (fun i => xs[i]?) (fun i => ys[i]?)) := by
  subst hn
  refine ⟨fun i _ hi q => ?_, fun _ q => ⟨xs, ys, q.1, q.2, by omega⟩, fun i H v H' _ q y => ?_⟩
  · have h1 : i < xs.length := by omega
    have h2 : i < ys.length := by omega
    exact ⟨xs, ys, xs[i], ys[i], q.1, q.2, by simp [h1], by simp [h2]⟩
  · obtain ⟨T, x, z, h1, h2, h3, h4, h5⟩ := y
    exact ⟨T, x, z, h1, h2, h3, h4 xs q.1, h5 ys q.2⟩
theorem mapI_get {ns : List Int} {i : Nat} {x : V} (h : (ns.map V.int)[i]? = some x) : ∃ n, ns[i]? = some n ∧ x = .int n := by
  rw [List.getElem?_map] at h
  cases e : ns[i]? with
  | none => rw [e] at h; cases h
  | some n =>
    rw [e] at h
    exact ⟨n, rfl, (Option.some.inj h).symm⟩
/-! is_word: slots 0=thing -/
def sp_is_word : Sp := fun vs H Q _ => ∃ lv : Bool, vs = [.str (wS lv)] ∧ ∀ H', Same H H' → Q (.bl true) H'
theorem sc_is_word : FnScope ["thing"] ["thing"] (defScope (top 32)) := ⟨rfl, rfl, rfl, by decide +kernel, rfl, by decide +kernel, by decide +kernel⟩
theorem ok_is_word {P : Program} {w : World} {K : PySem.W.Frag} {mg : Str → Option Value} {base : Heap} (T : Tx K mg) : Fn P w K mg base "is_word" 1 ["thing"] (sp_is_word) := by
  refine mkFn (k := 0) T.t_is_word sc_is_word (fun vs H Q E h => ?_) (fun _ _ _ _ _ _ us hl => match us, hl with | [_], _ => rfl) (fun f cdv A outer s H vs Q E hr h => ?_)
  · obtain ⟨lv, rfl, q⟩ := h <;> rfl
  · refine ⟨_, (pss_one (ps_ret (pe_and (pe_callB (k_isi (K := K) rfl) rfl T.f_isinstance b_isinstance (pa_cons (pv 0) (pa_cons (pe_ty rfl T.f_str b_str) pa_nil))) (pe_one (pe_cmpR (k_in (K := K) rfl) (pv 0) (pe_tup (pa_cons (pe_gs rfl T.c_LEVEL) (pa_cons (pe_gs rfl T.c_UPRIGHT) pa_nil))) rfl))))), ?_⟩
    obtain ⟨lv, rfl, q⟩ := h
    obtain ⟨t1, u1, a1, a2, a3⟩ := isi_str (K := K) (H := H) (wS lv)
    refine ⟨_, rfl, _, .ty "str", t1, u1, _, rfl, a1, a2, a3, _, rfl, iteT ⟨_, rfl, by show 2 ≤ sizeLine; decide, fun p np => ⟨p, _, rfl, .inr (SqT.of upd_same), rfl, rfl, qb ?_ (q _ (sn np))⟩⟩⟩
    cases lv <;> decide +kernel
/-! is_stroke: slots 0=boxes 1=thing -/
def sp_is_stroke (K : PySem.W.Frag) : Sp := fun vs H Q _ => ∃ (v u : V) (ss : List (Int × Int)) (st : Bool × List Int), vs = [v, u] ∧ BX K H v ss ∧ ST H u st ∧ st.2.length = ss.length ∧ ss.length ≤ 40 ∧ ∀ H', Same H H' → Q (.bl true) H'
theorem sc_is_stroke : FnScope ["boxes", "thing"] ["boxes", "thing"] (defScope (top 33)) := ⟨rfl, rfl, rfl, by decide +kernel, rfl, by decide +kernel, by decide +kernel⟩
theorem ok_is_stroke {P : Program} {w : World} {K : PySem.W.Frag} {mg : Str → Option Value} {base : Heap} (T : Tx K mg) : Fn P w K mg base "is_stroke" 3 ["boxes", "thing"] (sp_is_stroke K) := by
  refine mkFn (k := 2) T.t_is_stroke sc_is_stroke (fun vs H Q E h => ?_) (fun _ _ _ _ _ _ us hl => match us, hl with | [_, _], _ => rfl) (fun f cdv A outer s H vs Q E hr h => ?_)
  · obtain ⟨v, u, ss, st, rfl, ⟨b, dx, _, rfl, hb, ta, tv, rfl, ht, hP⟩, ⟨a, g, rfl, ha, ga, rfl, hg⟩, el, h40, q⟩ := h <;> rfl
  · refine ⟨_, (pss_one (ps_ret (pe_and (cl (ok_is_pair T) (hr.mono (by decide)) rfl (pa_cons (pv 1) pa_nil)) (pe_and (cl (ok_is_word T) (hr.mono (by decide)) rfl (pa_cons (pe_ix (k_ixT (K := K) rfl) (pv 1) pe_int (fun _ _ => rfl)) pa_nil)) (pe_one (cl (ok_are_integers T) (hr.mono (by decide)) rfl (pa_cons (pe_ix (k_ixT (K := K) rfl) (pv 1) pe_int (fun _ _ => rfl)) (pa_cons (k_fld (K := K) rfl (pv 0) rfl) pa_nil)))))))), ?_⟩
    obtain ⟨v, u, ss, st, rfl, ⟨b, dx, _, rfl, hb, ta, tv, rfl, ht, hP⟩, ⟨a, g, rfl, ha, ga, rfl, hg⟩, el, h40, q⟩ := h
    refine ⟨_, rfl, a, _, rfl, ha, _, rfl, iteT ⟨_, rfl, a, _, 0, _, rfl, rfl, SqT.of ha, atI_nat (j := 0) rfl, st.1, rfl, fun H1 s1 => ⟨_, rfl, iteT ?_⟩⟩⟩
    refine ⟨_, rfl, a, _, 1, _, rfl, rfl, SqT.of (s1 _ _ ha), atI_nat (j := 1) rfl, _, rfl, b, _, dx, _, _, rfl, s1 _ _ hb, T.clB, T.nM, bF_many _ _, .inl ⟨ga, _, _, rfl, s1 _ _ hg, by omega, fun x hx => ?_, fun H2 s2 => qb ?_ (q H2 (s1.trans s2))⟩⟩
    · obtain ⟨n, _, rfl⟩ := List.mem_map.mp hx
      exact .int n
    · refine dand (decide_eq_true (by rw [List.length_map, el])) ?_
      rw [List.all_map, List.all_eq_true]
      intro _ _
      rfl
/-! behind: slots 0=picture 1=stroke 2=way 3=goals 4=goal 5=place -/
def sp_behind (_ : PySem.W.Frag) : Sp := fun vs H Q _ => ∃ (v u : V) (ps : List (Int × Int)) (st : Bool × List Int), vs = [v, u] ∧ TP H v ps ∧ ST H u st ∧ st.2.length = ps.length ∧ ps.length ≤ 40 ∧ ∀ H' z, Same H H' → TP H' z (bhd st ps) → Q z H'
theorem sc_behind : FnScope ["picture", "stroke", "way", "goals", "goal", "place"] ["picture", "stroke"] (defScope (top 34)) := ⟨rfl, rfl, rfl, by decide +kernel, rfl, by decide +kernel, by decide +kernel⟩
theorem ok_behind {P : Program} {w : World} {K : PySem.W.Frag} {mg : Str → Option Value} {base : Heap} (T : Tx K mg) : Fn P w K mg base "behind" 1 ["picture", "stroke"] (sp_behind K) := by
  refine mkFn (k := 0) T.t_behind sc_behind (fun vs H Q E h => ?_) (fun _ _ _ _ _ _ us hl => match us, hl with | [_, _], _ => rfl) (fun f cdv A outer s H vs Q E hr h => ?_)
  · obtain ⟨v, u, ps, ⟨lv, gs⟩, rfl, ⟨pa, pw, rfl, hp, hQ⟩, ⟨a, g, rfl, ha, ga, rfl, hg⟩, el, h40, q⟩ := h <;> rfl
  · refine ⟨_, (pss_cons (ps_asg (pv 1) (pg_tup rfl (pgs_cons (pg_name (i := 2) sc_behind.nd rfl (by first | exact Or.inl rfl | exact Or.inr rfl)) (pgs_cons (pg_name (i := 3) sc_behind.nd rfl (by first | exact Or.inl rfl | exact Or.inr rfl)) pgs_nil))))
        (pss_cons (ps_if (pt_cmpR op_eq (pv 2) (pe_gs rfl T.c_LEVEL) (nomark _)) (pss_one (ps_ret (pe_callTy (k_tuple (K := K) rfl) rfl T.f_tuple b_tuple (pa_cons (pe_lc (own := [("goal", 4), ("place", 5)]) (g := (gTup K 2 (gCons (gName 4) (gCons (gName 5) gNil)))) (tt := tYes) rfl sc_behind.nd (k_zip (K := K) rfl rfl T.f_zip (pa_cons (pv 3) (pa_cons (pv 0) pa_nil))) (blkOk_by (N := ["picture", "stroke", "way", "goals", "goal", "place"]) (sc := defScope (top 34)) (by decide +kernel)) (fun _ _ _ _ _ => (pg_tup rfl (pgs_cons (pg_name (i := 4) sc_behind.nd rfl (by first | exact Or.inl rfl | exact Or.inr rfl)) (pgs_cons (pg_name (i := 5) sc_behind.nd rfl (by first | exact Or.inl rfl | exact Or.inr rfl)) pgs_nil)))) (fun _ _ _ _ _ => pts_nil) (fun _ _ _ _ _ => (pe_tup (pa_cons (pv 4) (pa_cons (pe_ix (k_ixT (K := K) rfl) (pv 5) pe_int (fun _ _ => rfl)) pa_nil))))) pa_nil)))) pss_nil)
        (pss_one (ps_ret (pe_callTy (k_tuple (K := K) rfl) rfl T.f_tuple b_tuple (pa_cons (pe_lc (own := [("goal", 4), ("place", 5)]) (g := (gTup K 2 (gCons (gName 4) (gCons (gName 5) gNil)))) (tt := tYes) rfl sc_behind.nd (k_zip (K := K) rfl rfl T.f_zip (pa_cons (pv 3) (pa_cons (pv 0) pa_nil))) (blkOk_by (N := ["picture", "stroke", "way", "goals", "goal", "place"]) (sc := defScope (top 34)) (by decide +kernel)) (fun _ _ _ _ _ => (pg_tup rfl (pgs_cons (pg_name (i := 4) sc_behind.nd rfl (by first | exact Or.inl rfl | exact Or.inr rfl)) (pgs_cons (pg_name (i := 5) sc_behind.nd rfl (by first | exact Or.inl rfl | exact Or.inr rfl)) pgs_nil)))) (fun _ _ _ _ _ => pts_nil) (fun _ _ _ _ _ => (pe_tup (pa_cons (pe_ix (k_ixT (K := K) rfl) (pv 5) pe_int (fun _ _ => rfl)) (pa_cons (pv 4) pa_nil))))) pa_nil)))))), ?_⟩
    obtain ⟨v, u, ps, ⟨lv, gs⟩, rfl, ⟨pa, pw, rfl, hp, hQ⟩, ⟨a, g, rfl, ha, ga, rfl, hg⟩, el, h40, q⟩ := h
    have el : gs.length = ps.length := el
    have lw := Paired.length hQ
    have lb := bhd_len (st := (lv, gs)) el
    refine ⟨_, rfl, a, _, rfl, SqT.of ha, rfl, _, _, rfl, _, _, rfl, rfl, ?_⟩
    cases lv with
    | true =>
      refine ⟨_, rfl, rfl, _, rfl, if1 wS_tl ?_⟩
      refine ⟨_, rfl, _, rfl, ga, pa, _, _, rfl, .inr ⟨SqT.of hg, SqT.of hp, ?_⟩⟩
      refine lc_rel (bhd (true, gs) ps) (fun z y H => TI H y [z.1, z.2]) (fun z y H H' k h => h.up k) (walk_zipT (xs := gs.map V.int) (ys := pw) (by rw [List.length_map, lb]; omega)) (by omega) (fun H' s => ⟨SqT.of (s _ _ hg), SqT.of (s _ _ hp)⟩) (fun i z x H' H'' hz s1 y Qt k => ?_) (fun D ys H' hD s1 hl hR => ?_)
      · obtain ⟨U, x1, x2, rfl, nU, rfl, h1, h2⟩ := y
        obtain ⟨g0, p, e1, e2, rfl⟩ := bhd_get hz
        obtain ⟨n, e3, rfl⟩ := mapI_get h1
        obtain ⟨p', e4, c, rfl, hc⟩ := paired_at hQ h2
        cases Option.some.inj (e3.symm.trans e1)
        cases Option.some.inj (e4.symm.trans e2)
        have sU := sn (o := .tup [.int g0, .ref c]) nU
        refine ⟨U, _, rfl, SqT.of upd_same, rfl, _, _, rfl, _, _, rfl, rfl, rfl, _, rfl, _, rfl, c, _, 1, _, rfl, rfl, SqT.of (sU _ _ (s1 _ _ hc)), atI_nat (j := 1) rfl, by show 2 ≤ sizeLine; decide, fun r nr => ?_⟩
        exact k _ _ (sU.trans (sn nr)) ⟨r, rfl, upd_same⟩
      · refine ⟨D, ys, rfl, .inl ⟨SqL.of hl, fun r nr => ?_⟩⟩
        exact q _ _ (s1.trans (sn nr)) ⟨r, ys, rfl, upd_same, prd_imp hR fun _ _ h => h.up (kp (sn nr))⟩
    | false =>
      refine ⟨_, rfl, rfl, _, rfl, if0 wS_fl ?_⟩
      refine ⟨_, rfl, _, rfl, ga, pa, _, _, rfl, .inr ⟨SqT.of hg, SqT.of hp, ?_⟩⟩
      refine lc_rel (bhd (false, gs) ps) (fun z y H => TI H y [z.1, z.2]) (fun z y H H' k h => h.up k) (walk_zipT (xs := gs.map V.int) (ys := pw) (by rw [List.length_map, lb]; omega)) (by omega) (fun H' s => ⟨SqT.of (s _ _ hg), SqT.of (s _ _ hp)⟩) (fun i z x H' H'' hz s1 y Qt k => ?_) (fun D ys H' hD s1 hl hR => ?_)
      · obtain ⟨U, x1, x2, rfl, nU, rfl, h1, h2⟩ := y
        obtain ⟨g0, p, e1, e2, rfl⟩ := bhd_get hz
        obtain ⟨n, e3, rfl⟩ := mapI_get h1
        obtain ⟨p', e4, c, rfl, hc⟩ := paired_at hQ h2
        cases Option.some.inj (e3.symm.trans e1)
        cases Option.some.inj (e4.symm.trans e2)
        have sU := sn (o := .tup [.int g0, .ref c]) nU
        refine ⟨U, _, rfl, SqT.of upd_same, rfl, _, _, rfl, _, _, rfl, rfl, rfl, _, rfl, c, _, 0, _, rfl, rfl, SqT.of (sU _ _ (s1 _ _ hc)), atI_nat (j := 0) rfl, _, rfl, by show 2 ≤ sizeLine; decide, fun r nr => ?_⟩
        exact k _ _ (sU.trans (sn nr)) ⟨r, rfl, upd_same⟩
      · refine ⟨D, ys, rfl, .inl ⟨SqL.of hl, fun r nr => ?_⟩⟩
        exact q _ _ (s1.trans (sn nr)) ⟨r, ys, rfl, upd_same, prd_imp hR fun _ _ h => h.up (kp (sn nr))⟩
/-- a stroke of the way may bring them together -/
def Bes (lv : Bool) (ss ps : List (Int × Int)) (i j : Nat) : Prop := ∃ p q s r : Int × Int, ps[i]? = some p ∧ ps[j]? = some q ∧ ss[i]? = some s ∧ ss[j]? = some r ∧
  (if lv = true then meetB p.2 s.2 q.2 r.2 = true ∧ p.1 < q.1 else meetB p.1 s.1 q.1 r.1 = true ∧ p.2 < q.2)
/-- a list of pairs of numbers -/
def LP (H : Hp) (D : Addr) (vs : List V) (zs : List (Nat × Nat)) : Prop := H D = some (.lst vs) ∧ Paired (fun v (z : Nat × Nat) => TI H v [(z.1 : Int), (z.2 : Int)]) vs zs
theorem LP.up {H H' : Hp} {D : Addr} {vs : List V} {zs : List (Nat × Nat)} (h : LP H D vs zs) (s : Same H H') : LP H' D vs zs := ⟨s _ _ h.1, prd_imp h.2 fun _ _ q => q.up (kp s)⟩
def gp (lv : Bool) (p q s : Int × Int) : Int := if lv = true then q.1 - p.1 - s.1 else q.2 - p.2 - s.2
def BesInv (H : Hp) (D : Addr) (lv : Bool) (ss ps : List (Int × Int)) (m : Nat) (H' : Hp) : Prop := Same H H' ∧ ∃ vs zs, LP H' D vs zs ∧ zs.length ≤ m ∧ ∀ z ∈ zs, Bes lv ss ps z.1 z.2
theorem BesInv.step {H H' H2 : Hp} {D : Addr} {lv : Bool} {ss ps : List (Int × Int)} {m : Nat} (h : BesInv H D lv ss ps m H') (s : Same H' H2) : BesInv H D lv ss ps (m + 1) H2 := by
  obtain ⟨s1, vs, zs, l, hl, hz⟩ := h
  exact ⟨s1.trans s, vs, zs, l.up s, by omega, hz⟩
/-- one pair more -/
theorem BesInv.more {H H' : Hp} {D : Addr} {lv : Bool} {ss ps : List (Int × Int)} {m i j : Nat} (hD : H D = none) (h : BesInv H D lv ss ps m H') (hb : Bes lv ss ps i j) (hm : m ≤ 4000) {r : Addr} (nr : H' r = none) :
    ∃ xs, (upd H' r (.tup [.int (i : Nat), .int (j : Nat)])) D = some (.lst xs) ∧ xs.length < sizeLine ∧ BesInv H D lv ss ps (m + 1) (upd (upd H' r (.tup [.int (i : Nat), .int (j : Nat)])) D (.lst (xs ++ [.ref r]))) := by
  obtain ⟨s1, vs, zs, ⟨l1, l2⟩, hl, hz⟩ := h
  have sr := sn (o := .tup [.int (i : Nat), .int (j : Nat)]) nr
  have nrD : r ≠ D := fun e => by rw [e, l1] at nr; cases nr
  have k2 := kpL (ys := vs ++ [.ref r]) (sr _ _ l1)
  refine ⟨vs, sr _ _ l1, by rw [Paired.length l2]; exact lt_line (by omega), same_mut (s1.trans sr) hD, vs ++ [.ref r], zs ++ [(i, j)], ⟨upd_same, ?_⟩, by rw [List.length_append, List.length_singleton]; omega, fun z hzm => ?_⟩
  · refine (prd_imp l2 fun _ _ q => (q.up (kp sr)).up k2).snoc ⟨r, rfl, ?_⟩
    rw [upd_ne nrD]
    exact upd_same
  · rcases List.mem_append.mp hzm with e | e
    · exact hz z e
    · rw [List.mem_singleton.mp e]
      exact hb
/-! beside: slots 0=boxes 1=picture 2=way 3=found 4=one 5=other -/
def sp_beside (K : PySem.W.Frag) : Sp := fun vs H Q _ => ∃ (v u : V) (lv : Bool) (ss ps : List (Int × Int)), vs = [v, u, .str (wS lv)] ∧ BX K H v ss ∧ TP H u ps ∧ ps.length = ss.length ∧ ss.length ≤ 40 ∧
  ∀ H' D ws zs, Same H H' → LP H' D ws zs → zs.length ≤ 2000 → (∀ z ∈ zs, Bes lv ss ps z.1 z.2) → Q (.ref D) H'
theorem sc_beside : FnScope ["boxes", "picture", "way", "found", "one", "other"] ["boxes", "picture", "way"] (defScope (top 35)) := ⟨rfl, rfl, rfl, by decide +kernel, rfl, by decide +kernel, by decide +kernel⟩
theorem ok_beside {P : Program} {w : World} {K : PySem.W.Frag} {mg : Str → Option Value} {base : Heap} (T : Tx K mg) : Fn P w K mg base "beside" 3 ["boxes", "picture", "way"] (sp_beside K) := by
  refine mkFn (k := 2) T.t_beside sc_beside (fun vs H Q E h => ?_) (fun _ _ _ _ _ _ us hl => match us, hl with | [_, _, _], _ => rfl) (fun f cdv A outer s H vs Q E hr h => ?_)
  · obtain ⟨v, u, lv, ss, ps, rfl, hB, hT, el, h40, k⟩ := h <;> rfl
  · refine ⟨_, (pss_cons (ps_set (i := 3) sc_beside.nd rfl (by first | exact Or.inl rfl | exact Or.inr rfl) (pe_lst pa_nil))
        (pss_cons (ps_for PassesOwn.never rfl (pi_range1 rfl T.f_range (pa_cons (k_fld (K := K) rfl (pv 0) rfl) pa_nil)) (pg_name (i := 4) sc_beside.nd rfl (by first | exact Or.inl rfl | exact Or.inr rfl)) (pss_one (ps_for PassesOwn.never rfl (pi_range1 rfl T.f_range (pa_cons (k_fld (K := K) rfl (pv 0) rfl) pa_nil)) (pg_name (i := 5) sc_beside.nd rfl (by first | exact Or.inl rfl | exact Or.inr rfl)) (pss_cons (ps_if (PW.pt (pw_and (pt_cmpR op_eq (pv 2) (pe_gs rfl T.c_LEVEL) (nomark _)) (pw_and (pt_val (cl (ok_in_row T) (hr.mono (by decide)) rfl (pa_cons (pv 0) (pa_cons (pv 1) (pa_cons (pv 4) (pa_cons (pv 5) pa_nil)))))) (pw_and1 (pt_cmpR op_lt (pe_ix (k_ixT (K := K) rfl) (pe_ix (k_ixT (K := K) rfl) (pv 1) (pv 4) (fun _ _ => rfl)) pe_int (fun _ _ => rfl)) (pe_ix (k_ixT (K := K) rfl) (pe_ix (k_ixT (K := K) rfl) (pv 1) (pv 5) (fun _ _ => rfl)) pe_int (fun _ _ => rfl)) (nomark _)))))) (pss_one (ps_expr (k_bm (K := K) rfl PySem.F.plainAttrs_list PySem.F.slot_list_append PySem.F.type_list_append mt_append (pv 3) (pa_cons (pe_tup (pa_cons (pv 4) (pa_cons (pv 5) pa_nil))) pa_nil)))) pss_nil)
        (pss_one (ps_if (PW.pt (pw_and (pt_cmpR op_eq (pv 2) (pe_gs rfl T.c_UPRIGHT) (nomark _)) (pw_and (pt_val (cl (ok_in_column T) (hr.mono (by decide)) rfl (pa_cons (pv 0) (pa_cons (pv 1) (pa_cons (pv 4) (pa_cons (pv 5) pa_nil)))))) (pw_and1 (pt_cmpR op_lt (pe_ix (k_ixT (K := K) rfl) (pe_ix (k_ixT (K := K) rfl) (pv 1) (pv 4) (fun _ _ => rfl)) pe_int (fun _ _ => rfl)) (pe_ix (k_ixT (K := K) rfl) (pe_ix (k_ixT (K := K) rfl) (pv 1) (pv 5) (fun _ _ => rfl)) pe_int (fun _ _ => rfl)) (nomark _)))))) (pss_one (ps_expr (k_bm (K := K) rfl PySem.F.plainAttrs_list PySem.F.slot_list_append PySem.F.type_list_append mt_append (pv 3) (pa_cons (pe_tup (pa_cons (pv 4) (pa_cons (pv 5) pa_nil))) pa_nil)))) pss_nil))))))
        (pss_one (ps_ret (pv 3))))), ?_⟩
    obtain ⟨v, u, lv, ss, ps, rfl, hB, hT, el, h40, k⟩ := h
    refine ⟨Nat.zero_le _, fun D nD => ?_⟩
    have s0 := sn (o := .lst []) nD
    obtain ⟨b, dx, t, rfl, hb, hts⟩ := id hB
    refine ⟨_, rfl, b, _, dx, _, _, rfl, s0 _ _ hb, T.clB, T.nM, bF_many _ _, ss.length, rfl, by omega, by omega, for_it walk_rg (fun i σ H' => ∃ v4 v5, σ = [some (.ref b), some u, some (.str (wS lv)), some (.ref D), v4, v5] ∧ BesInv H D lv ss ps (i * ss.length) H')
      ⟨none, none, rfl, s0, [], [], ⟨upd_same, .nil⟩, Nat.zero_le _, fun z hz => by cases hz⟩ (fun _ _ _ _ _ => True.intro) (fun i x σ H1 H2 hi p y => ?_) (fun σ H1 p => ?_)⟩
    · obtain ⟨v4, v5, rfl, iv⟩ := p
      obtain ⟨rfl, rfl⟩ := y
      have s1 := iv.1
      have bound : (i + 1) * ss.length ≤ 1600 := Nat.le_trans (Nat.mul_le_mul (show i + 1 ≤ 40 by omega) h40) (by decide)
      have e1 : (i + 1) * ss.length = i * ss.length + ss.length := Nat.succ_mul _ _
      refine ⟨_, rfl, b, _, dx, _, _, rfl, s1 _ _ hb, T.clB, T.nM, bF_many _ _, ss.length, rfl, by omega, by omega, for_it walk_rg (fun j σ H' => ∃ v5, σ = [some (.ref b), some u, some (.str (wS lv)), some (.ref D), some (.int (i : Nat)), v5] ∧ BesInv H D lv ss ps (i * ss.length + j) H')
        ⟨v5, rfl, iv⟩ (fun _ _ _ _ _ => True.intro) (fun j x σ H3 H4 hj p y => ?_) (fun σ H3 p => ?_)⟩
      · obtain ⟨v5, rfl, jv⟩ := p
        obtain ⟨rfl, rfl⟩ := y
        have s3 := jv.1
        have hB3 := hB.up (kp s3)
        have hT3 := hT.up (kp s3)
        obtain ⟨p, f1⟩ := at_lt (l := ps) (i := i) (by omega)
        obtain ⟨q, f2⟩ := at_lt (l := ps) (i := j) (by omega)
        obtain ⟨s, f3⟩ := at_lt (l := ss) (i := i) hi
        obtain ⟨r, f4⟩ := at_lt (l := ss) (i := j) hj
        obtain ⟨pa, pw, rfl, hp, hQ⟩ := id hT3
        obtain ⟨_, g1, c1, rfl, d1⟩ := prd_get hQ f1
        obtain ⟨_, g2, c2, rfl, d2⟩ := prd_get hQ f2
        cases lv with
        | true =>
          refine ⟨_, rfl, rfl, _, rfl, if1 wS_tl ?_⟩
          refine ⟨_, rfl, _, rfl, _, rfl, _, rfl, _, _, i, j, ss, ps, p, q, s, r, rfl, hB3, hT3, f1, f2, f3, f4, _, rfl, ite2 (fun z => ?_) (fun z => ?_)⟩
          · refine ⟨_, rfl, _, rfl, pa, _, _, .ref c1, rfl, rfl, SqT.of hp, atI_nat g1, c1, _, 0, _, rfl, rfl, SqT.of d1, atI_nat (j := 0) rfl, ?_⟩
            refine ⟨_, rfl, _, rfl, pa, _, _, .ref c2, rfl, rfl, SqT.of hp, atI_nat g2, c2, _, 0, _, rfl, rfl, SqT.of d2, atI_nat (j := 0) rfl, _, _, rfl, rfl, _, rfl, ite2 (fun z2 => ?_) (fun z2 => ?_)⟩
            · refine ⟨_, rfl, .inl ⟨rfl, _, SqL.of jv.2.choose_spec.choose_spec.1.1⟩, _, rfl, _, rfl, by show 2 ≤ sizeLine; decide, fun a na => ?_⟩
              obtain ⟨xs, x1, x2, x3⟩ := BesInv.more (i := i) (j := j) nD jv ⟨p, q, s, r, f1, f2, f3, f4, z, of_decide_eq_true z2⟩ (by omega) na
              refine ⟨D, xs, _, rfl, rfl, x1, x2, ?_⟩
              exact ⟨_, rfl, rfl, _, rfl, if0 wS_tu ⟨_, rfl, x3⟩⟩
            · exact ⟨_, rfl, rfl, _, rfl, if0 wS_tu ⟨_, rfl, jv.step (Same.refl _)⟩⟩
          · exact ⟨_, rfl, rfl, _, rfl, if0 wS_tu ⟨_, rfl, jv.step (Same.refl _)⟩⟩
        | false =>
          refine ⟨_, rfl, rfl, _, rfl, if0 wS_fl ?_⟩
          refine ⟨_, rfl, rfl, _, rfl, if1 wS_fu ?_⟩
          refine ⟨_, rfl, _, rfl, _, rfl, _, rfl, _, _, i, j, ss, ps, p, q, s, r, rfl, hB3, hT3, f1, f2, f3, f4, _, rfl, ite2 (fun z => ?_) (fun z => ?_)⟩
          · refine ⟨_, rfl, _, rfl, pa, _, _, .ref c1, rfl, rfl, SqT.of hp, atI_nat g1, c1, _, 1, _, rfl, rfl, SqT.of d1, atI_nat (j := 1) rfl, ?_⟩
            refine ⟨_, rfl, _, rfl, pa, _, _, .ref c2, rfl, rfl, SqT.of hp, atI_nat g2, c2, _, 1, _, rfl, rfl, SqT.of d2, atI_nat (j := 1) rfl, _, _, rfl, rfl, _, rfl, ite2 (fun z2 => ?_) (fun z2 => ?_)⟩
            · refine ⟨_, rfl, .inl ⟨rfl, _, SqL.of jv.2.choose_spec.choose_spec.1.1⟩, _, rfl, _, rfl, by show 2 ≤ sizeLine; decide, fun a na => ?_⟩
              obtain ⟨xs, x1, x2, x3⟩ := BesInv.more (i := i) (j := j) nD jv ⟨p, q, s, r, f1, f2, f3, f4, z, of_decide_eq_true z2⟩ (by omega) na
              exact ⟨D, xs, _, rfl, rfl, x1, x2, _, rfl, x3⟩
            · exact ⟨_, rfl, jv.step (Same.refl _)⟩
          · exact ⟨_, rfl, jv.step (Same.refl _)⟩
      · obtain ⟨v5, rfl, jv⟩ := p
        exact ⟨_, _, rfl, by rw [e1]; exact jv⟩
    · obtain ⟨v4, v5, rfl, s1, vs, zs, hl, hz, hb⟩ := p
      have bound : ((ss.length : Nat) : Int).toNat * ss.length ≤ 1600 := Nat.mul_le_mul h40 h40
      exact ⟨_, rfl, k _ _ vs zs s1 hl (Nat.le_trans hz (Nat.le_trans bound (by decide))) hb⟩
/-! gap: slots 0=boxes 1=places 2=way 3=one 4=other 5=axis -/
def sp_gap (K : PySem.W.Frag) : Sp := fun vs H Q _ => ∃ (v u : V) (lv : Bool) (i j : Nat) (ss ps : List (Int × Int)) (p q s : Int × Int), vs = [v, u, .str (wS lv), .int (i : Nat), .int (j : Nat)] ∧ BX K H v ss ∧ TP H u ps ∧ ps[i]? = some p ∧ ps[j]? = some q ∧ ss[i]? = some s ∧ Q (.int (gp lv p q s)) H
theorem sc_gap : FnScope ["boxes", "places", "way", "one", "other", "axis"] ["boxes", "places", "way", "one", "other"] (defScope (top 36)) := ⟨rfl, rfl, rfl, by decide +kernel, rfl, by decide +kernel, by decide +kernel⟩
theorem ok_gap {P : Program} {w : World} {K : PySem.W.Frag} {mg : Str → Option Value} {base : Heap} (T : Tx K mg) : Fn P w K mg base "gap" 1 ["boxes", "places", "way", "one", "other"] (sp_gap K) := by
  refine mkFn (k := 0) T.t_gap sc_gap (fun vs H Q E h => ?_) (fun _ _ _ _ _ _ us hl => match us, hl with | [_, _, _, _, _], _ => rfl) (fun f cdv A outer s H vs Q E hr h => ?_)
  · obtain ⟨v, u, lv, i, j, ss, ps, p, q, s, rfl, ⟨b, dx, _, rfl, hb, ta, tv, rfl, ht, hP⟩, ⟨pa, pw, rfl, hp, hQ⟩, e1, e2, e3, k⟩ := h <;> rfl
  · refine ⟨_, (pss_cons (ps_set (i := 5) sc_gap.nd rfl (by first | exact Or.inl rfl | exact Or.inr rfl) (pe_ifExp (pt_cmpR op_eq (pv 2) (pe_gs rfl T.c_LEVEL) (nomark _)) pe_int pe_int))
        (pss_one (ps_ret (pe_op op_sub (pe_op op_sub (pe_ix (k_ixT (K := K) rfl) (pe_ix (k_ixT (K := K) rfl) (pv 1) (pv 4) (fun _ _ => rfl)) (pv 5) (fun _ _ => rfl)) (pe_ix (k_ixT (K := K) rfl) (pe_ix (k_ixT (K := K) rfl) (pv 1) (pv 3) (fun _ _ => rfl)) (pv 5) (fun _ _ => rfl))) (pe_ix (k_ixT (K := K) rfl) (pe_ix (k_ixT (K := K) rfl) (k_fld (K := K) rfl (pv 0) rfl) (pv 3) (fun _ _ => rfl)) (pv 5) (fun _ _ => rfl)))))), ?_⟩
    obtain ⟨v, u, lv, i, j, ss, ps, p, q, s, rfl, ⟨b, dx, _, rfl, hb, ta, tv, rfl, ht, hP⟩, ⟨pa, pw, rfl, hp, hQ⟩, e1, e2, e3, k⟩ := h
    obtain ⟨_, f1, c1, rfl, g1⟩ := prd_get hQ e1
    obtain ⟨_, f2, c2, rfl, g2⟩ := prd_get hQ e2
    obtain ⟨_, f3, c3, rfl, g3⟩ := prd_get hP e3
    cases lv with
    | true =>
      refine ⟨_, rfl, rfl, _, rfl, if1 wS_tl ?_⟩
      refine ⟨_, rfl, _, rfl, pa, _, _, .ref c2, rfl, rfl, SqT.of hp, atI_nat f2, _, rfl, c2, _, 0, _, rfl, rfl, SqT.of g2, atI_nat (j := 0) rfl, ?_⟩
      refine ⟨_, rfl, _, rfl, pa, _, _, .ref c1, rfl, rfl, SqT.of hp, atI_nat f1, _, rfl, c1, _, 0, _, rfl, rfl, SqT.of g1, atI_nat (j := 0) rfl, _, _, rfl, rfl, ?_⟩
      exact ⟨_, rfl, b, _, dx, _, _, rfl, hb, T.clB, T.nS, bF_sizes _ _, _, rfl, ta, _, _, .ref c3, rfl, rfl, SqT.of ht, atI_nat f3, _, rfl, c3, _, 0, _, rfl, rfl, SqT.of g3, atI_nat (j := 0) rfl, _, _, rfl, rfl, k⟩
    | false =>
      refine ⟨_, rfl, rfl, _, rfl, if0 wS_fl ?_⟩
      refine ⟨_, rfl, _, rfl, pa, _, _, .ref c2, rfl, rfl, SqT.of hp, atI_nat f2, _, rfl, c2, _, 1, _, rfl, rfl, SqT.of g2, atI_nat (j := 1) rfl, ?_⟩
      refine ⟨_, rfl, _, rfl, pa, _, _, .ref c1, rfl, rfl, SqT.of hp, atI_nat f1, _, rfl, c1, _, 1, _, rfl, rfl, SqT.of g1, atI_nat (j := 1) rfl, _, _, rfl, rfl, ?_⟩
      exact ⟨_, rfl, b, _, dx, _, _, rfl, hb, T.clB, T.nS, bF_sizes _ _, _, rfl, ta, _, _, .ref c3, rfl, rfl, SqT.of ht, atI_nat f3, _, rfl, c3, _, 1, _, rfl, rfl, SqT.of g3, atI_nat (j := 1) rfl, _, _, rfl, rfl, k⟩
/-- a stroke is free -/
def Free (ss ps : List (Int × Int)) (st : Bool × List Int) : Prop := ∀ (i j : Nat) (p q s : Int × Int), Bes st.1 ss ps i j → (bhd st ps)[i]? = some p → (bhd st ps)[j]? = some q → ss[i]? = some s → 0 ≤ gp st.1 p q s
/-! is_let: slots 0=boxes 1=picture 2=stroke 3=later 4=one 5=other -/
def sp_is_let (K : PySem.W.Frag) : Sp := fun vs H Q _ => ∃ (v u w : V) (ss ps : List (Int × Int)) (st : Bool × List Int), vs = [v, u, w] ∧ BX K H v ss ∧ TP H u ps ∧ ST H w st ∧ ps.length = ss.length ∧ st.2.length = ss.length ∧ ss.length ≤ 40 ∧ Free ss ps st ∧ ∀ H', Same H H' → Q (.bl true) H'
theorem sc_is_let : FnScope ["boxes", "picture", "stroke", "later", "one", "other"] ["boxes", "picture", "stroke"] (defScope (top 37)) := ⟨rfl, rfl, rfl, by decide +kernel, rfl, by decide +kernel, by decide +kernel⟩
theorem ok_is_let {P : Program} {w : World} {K : PySem.W.Frag} {mg : Str → Option Value} {base : Heap} (T : Tx K mg) : Fn P w K mg base "is_let" 4 ["boxes", "picture", "stroke"] (sp_is_let K) := by
  refine mkFn (k := 3) T.t_is_let sc_is_let (fun vs H Q E h => ?_) (fun _ _ _ _ _ _ us hl => match us, hl with | [_, _, _], _ => rfl) (fun f cdv A outer s H vs Q E hr h => ?_)
  · obtain ⟨v, u, w, ss, ps, st, rfl, hB, hT, hS, el, es, h40, hF, k⟩ := h <;> rfl
  · refine ⟨_, (pss_cons (ps_set (i := 3) sc_is_let.nd rfl (by first | exact Or.inl rfl | exact Or.inr rfl) (cl (ok_behind T) (hr.mono (by decide)) rfl (pa_cons (pv 1) (pa_cons (pv 2) pa_nil))))
        (pss_one (ps_ret (pe_callB (k_all (K := K) rfl rfl) rfl T.f_all b_all (pa_cons (pe_lc (own := [("one", 4), ("other", 5)]) (g := (gTup K 2 (gCons (gName 4) (gCons (gName 5) gNil)))) (tt := tYes) rfl sc_is_let.nd (k_pl (K := K) rfl (cl (ok_beside T) (hr.mono (by decide)) rfl (pa_cons (pv 0) (pa_cons (pv 1) (pa_cons (pe_ix (k_ixT (K := K) rfl) (pv 2) pe_int (fun _ _ => rfl)) pa_nil))))) (blkOk_by (N := ["boxes", "picture", "stroke", "later", "one", "other"]) (sc := defScope (top 37)) (by decide +kernel)) (fun _ _ _ _ _ => (pg_tup rfl (pgs_cons (pg_name (i := 4) sc_is_let.nd rfl (by first | exact Or.inl rfl | exact Or.inr rfl)) (pgs_cons (pg_name (i := 5) sc_is_let.nd rfl (by first | exact Or.inl rfl | exact Or.inr rfl)) pgs_nil)))) (fun _ _ _ _ _ => pts_nil) (fun _ _ _ _ _ => (pe_cmpR op_ge (cl (ok_gap T) (hr.mono (by decide)) rfl (pa_cons (pv 0) (pa_cons (pv 3) (pa_cons (pe_ix (k_ixT (K := K) rfl) (pv 2) pe_int (fun _ _ => rfl)) (pa_cons (pv 4) (pa_cons (pv 5) pa_nil)))))) pe_int (nomark _)))) pa_nil))))), ?_⟩
    obtain ⟨v, u, w, ss, ps, st, rfl, hB, hT, hS, el, es, h40, hF, k⟩ := h
    refine ⟨_, rfl, _, rfl, u, w, ps, st, rfl, hT, hS, by omega, by omega, fun H1 z s1 hz => ?_⟩
    have lb := bhd_len (st := st) (ps := ps) (by omega)
    obtain ⟨sa, sg, e1, hsa, _⟩ := hS.up (kp s1)
    refine ⟨_, rfl, _, rfl, _, rfl, sa, _, 0, _, e1, rfl, SqT.of hsa, atI_nat (j := 0) rfl, v, u, st.1, ss, ps, rfl, hB.up (kp s1), hT.up (kp s1), el, h40, fun H2 D ws zs s2 hL hlen hb => ?_⟩
    have hlw := Paired.length hL.2
    refine ⟨D, rfl, ⟨_, SqL.of hL.1⟩, lc_map zs (fun _ => .bl true) (by rw [← hlw]; exact walk_list (xs := ws)) (by omega) (fun H' s => SqL.of (s _ _ hL.1)) (fun i q x H3 H4 hq s3 y Qt kk => ?_) (fun D2 H3 nD s3 hD => ?_)⟩
    · obtain ⟨rfl, hx⟩ := y
      obtain ⟨x', g1, c, rfl, hc⟩ := prd_get hL.2 hq
      cases Option.some.inj (g1.symm.trans hx)
      have s03 := (s1.trans s2).trans s3
      have hbq := hb q (List.mem_of_getElem? hq)
      obtain ⟨p1, p2, z1, z2, f1, f2, f3, f4, _⟩ := id hbq
      have l1 := lt_at f1
      have l2 := lt_at f2
      obtain ⟨b1, h1⟩ := at_lt (l := bhd st ps) (i := q.1) (by omega)
      obtain ⟨b2, h2⟩ := at_lt (l := bhd st ps) (i := q.2) (by omega)
      refine ⟨c, _, rfl, SqT.of (s3 _ _ hc), rfl, _, _, rfl, _, _, rfl, rfl, rfl, _, rfl, _, rfl, _, rfl, sa, _, 0, _, e1, rfl, SqT.of (s3 _ _ (s2 _ _ hsa)), atI_nat (j := 0) rfl, _, rfl, _, rfl, ?_⟩
      refine ⟨v, z, st.1, q.1, q.2, ss, bhd st ps, b1, b2, z1, rfl, hB.up (kp s03), hz.up (kp (s2.trans s3)), h1, h2, f3, _, _, rfl, rfl, ?_⟩
      exact qb (decide_eq_true (hF q.1 q.2 b1 b2 z1 hbq h1 h2 f3)) (kk _ (Same.refl _))
    · refine ⟨D2, zs.map fun _ => true, rfl, SqL.of (by rw [hD, List.map_map]; rfl), qb ?_ (k H3 ((s1.trans s2).trans s3))⟩
      rw [List.all_map, List.all_eq_true]
      intro _ _
      rfl
end K20

namespace K20
open PySem PySem.Spec PyProof.Rows L2
/-- a script of strokes -/
def SC (H : Hp) (v : V) (sts : List (Bool × List Int)) : Prop := ∃ a vs, v = .ref a ∧ H a = some (.tup vs) ∧ Paired (fun v st => ST H v st) vs sts
theorem SC.up {H H' : Hp} {v : V} {sts : List (Bool × List Int)} (h : SC H v sts) (k : Kp H H') : SC H' v sts := by
  obtain ⟨a, vs, e, h, q⟩ := h
  exact ⟨a, vs, e, k.tup h, prd_imp q fun _ _ z => z.up k⟩
/-- where the strokes lead -/
def runEnd (ps : List (Int × Int)) (sts : List (Bool × List Int)) : List (Int × Int) := sts.foldl (fun p st => bhd st p) ps
/-- each stroke is free -/
def FreeRun (ss : List (Int × Int)) : List (Int × Int) → List (Bool × List Int) → Prop
  | _, [] => True
  | ps, st :: r => Free ss ps st ∧ FreeRun ss (bhd st ps) r
theorem runEnd_len {ss : List (Int × Int)} : ∀ (sts : List (Bool × List Int)) (ps : List (Int × Int)), ps.length = ss.length → (∀ st ∈ sts, st.2.length = ss.length) → (runEnd ps sts).length = ss.length
  | [], _, h, _ => h
  | st :: r, ps, h, hs => by
    have h1 := hs st List.mem_cons_self
    exact runEnd_len r (bhd st ps) (by rw [bhd_len (by omega), h]) fun x hx => hs x (List.mem_cons_of_mem _ hx)
theorem FreeRun.at {ss : List (Int × Int)} : ∀ (sts : List (Bool × List Int)) (ps : List (Int × Int)) (i : Nat) (st : Bool × List Int), FreeRun ss ps sts → sts[i]? = some st → Free ss (runEnd ps (sts.take i)) st
  | [], _, _, _, _, h => by cases h
  | _ :: _, _, 0, _, hf, h => by
    cases Option.some.inj h
    exact hf.1
  | x :: r, ps, i + 1, st, hf, h => FreeRun.at r (bhd x ps) i st hf.2 h
theorem runEnd_snoc {sts : List (Bool × List Int)} {ps : List (Int × Int)} {i : Nat} {st : Bool × List Int} (h : sts[i]? = some st) : runEnd ps (sts.take (i + 1)) = bhd st (runEnd ps (sts.take i)) := by
  rw [take_snoc h]
  unfold runEnd
  rw [List.foldl_append]
  rfl
/-! is_form: slots 0=boxes 1=thing 2=stroke -/
def sp_is_form (K : PySem.W.Frag) : Sp := fun vs H Q _ => ∃ (v u : V) (ss : List (Int × Int)) (sts : List (Bool × List Int)), vs = [v, u] ∧ BX K H v ss ∧ SC H u sts ∧ sts.length ≤ 200 ∧ (∀ st ∈ sts, st.2.length = ss.length) ∧ ss.length ≤ 40 ∧ ∀ H', Same H H' → Q (.bl true) H'
theorem sc_is_form : FnScope ["boxes", "thing", "stroke"] ["boxes", "thing"] (defScope (top 40)) := ⟨rfl, rfl, rfl, by decide +kernel, rfl, by decide +kernel, by decide +kernel⟩
theorem ok_is_form {P : Program} {w : World} {K : PySem.W.Frag} {mg : Str → Option Value} {base : Heap} (T : Tx K mg) : Fn P w K mg base "is_form" 4 ["boxes", "thing"] (sp_is_form K) := by
  refine mkFn (k := 3) T.t_is_form sc_is_form (fun vs H Q E h => ?_) (fun _ _ _ _ _ _ us hl => match us, hl with | [_, _], _ => rfl) (fun f cdv A outer s H vs Q E hr h => ?_)
  · obtain ⟨v, u, ss, sts, rfl, hB, ⟨a, ws, rfl, ha, hP⟩, hl, hs, h40, k⟩ := h <;> rfl
  · refine ⟨_, (pss_one (ps_ret (pe_and (cl (ok_is_sized T) (hr.mono (by decide)) rfl (pa_cons (pv 1) (pa_cons pe_int (pa_cons (pe_gi rfl T.c_MOST_STROKES) pa_nil)))) (pe_one (pe_callB (k_all (K := K) rfl rfl) rfl T.f_all b_all (pa_cons (pe_lc (own := [("stroke", 2)]) (g := (gName 2)) (tt := tYes) rfl sc_is_form.nd (k_pt (K := K) rfl (pv 1)) (blkOk_by (N := ["boxes", "thing", "stroke"]) (sc := defScope (top 40)) (by decide +kernel)) (fun _ _ _ _ _ => (pg_name (i := 2) sc_is_form.nd rfl (by first | exact Or.inl rfl | exact Or.inr rfl))) (fun _ _ _ _ _ => pts_nil) (fun _ _ _ _ _ => (cl (ok_is_stroke T) (hr.mono (by decide)) rfl (pa_cons (pv 0) (pa_cons (pv 2) pa_nil))))) pa_nil)))))), ?_⟩
    obtain ⟨v, u, ss, sts, rfl, hB, ⟨a, ws, rfl, ha, hP⟩, hl, hs, h40, k⟩ := h
    have lw := Paired.length hP
    refine ⟨_, rfl, .inl ⟨a, _, _, _, rfl, ha, _, rfl, if1 (dand (dle (by omega)) (dle (by omega))) ?_⟩⟩
    refine ⟨_, rfl, a, rfl, ⟨_, SqT.of ha⟩, lc_map sts (fun _ => .bl true) (by rw [← lw]; exact walk_tup (xs := ws)) (by omega) (fun H' s => SqT.of (s _ _ ha)) (fun i st x H1 H2 hz s1 y Qt kk => ?_) (fun D H1 nD s1 hD => ?_)⟩
    · obtain ⟨rfl, hx⟩ := y
      obtain ⟨x', g1, hst⟩ := prd_get hP hz
      cases Option.some.inj (g1.symm.trans hx)
      exact ⟨rfl, _, rfl, _, rfl, v, _, ss, st, rfl, hB.up (kp s1), hst.up (kp s1), hs st (List.mem_of_getElem? hz), h40, fun H3 s3 => kk H3 s3⟩
    · refine ⟨D, sts.map fun _ => true, rfl, SqL.of (by rw [hD, List.map_map]; rfl), qb ?_ (k H1 s1)⟩
      rw [List.all_map, List.all_eq_true]
      intro _ _
      rfl
/-! run_of: slots 0=boxes 1=picture 2=script 3=found 4=number 5=stroke -/
def sp_run_of (K : PySem.W.Frag) : Sp := fun vs H Q _ => ∃ (v u w : V) (ss ps : List (Int × Int)) (sts : List (Bool × List Int)), vs = [v, u, w] ∧ BX K H v ss ∧ TP H u ps ∧ SC H w sts ∧ ps.length = ss.length ∧ sts.length ≤ 200 ∧ (∀ st ∈ sts, st.2.length = ss.length) ∧ ss.length ≤ 40 ∧ FreeRun ss ps sts ∧
  ∀ H' a D ws z, Same H H' → H' a = some (.tup [.ref D, .non]) → H' D = some (.lst (ws ++ [z])) → TP H' z (runEnd ps sts) → Q (.ref a) H'
theorem sc_run_of : FnScope ["boxes", "picture", "script", "found", "number", "stroke"] ["boxes", "picture", "script"] (defScope (top 41)) := ⟨rfl, rfl, rfl, by decide +kernel, rfl, by decide +kernel, by decide +kernel⟩
theorem ok_run_of {P : Program} {w : World} {K : PySem.W.Frag} {mg : Str → Option Value} {base : Heap} (T : Tx K mg) : Fn P w K mg base "run_of" 5 ["boxes", "picture", "script"] (sp_run_of K) := by
  refine mkFn (k := 4) T.t_run_of sc_run_of (fun vs H Q E h => ?_) (fun _ _ _ _ _ _ us hl => match us, hl with | [_, _, _], _ => rfl) (fun f cdv A outer s H vs Q E hr h => ?_)
  · obtain ⟨v, u, w, ss, ps, sts, rfl, hB, hT, ⟨a, ws, rfl, ha, hP⟩, el, hl, hs, h40, hF, k⟩ := h <;> rfl
  · refine ⟨_, (pss_cons (ps_set (i := 3) sc_run_of.nd rfl (by first | exact Or.inl rfl | exact Or.inr rfl) (pe_lst (pa_cons (pv 1) pa_nil)))
        (pss_cons (ps_for PassesOwn.never rfl (k_enum (K := K) rfl rfl T.f_enumerate (pa_cons (pv 2) pa_nil)) (pg_tup rfl (pgs_cons (pg_name (i := 4) sc_run_of.nd rfl (by first | exact Or.inl rfl | exact Or.inr rfl)) (pgs_cons (pg_name (i := 5) sc_run_of.nd rfl (by first | exact Or.inl rfl | exact Or.inr rfl)) pgs_nil))) (pss_cons (ps_if (pt_not (pt_val (cl (ok_is_let T) (hr.mono (by decide)) rfl (pa_cons (pv 0) (pa_cons (pe_ix (k_ixL (K := K) rfl) (pv 3) (pe_un un_neg pe_int) (fun _ _ => rfl)) (pa_cons (pv 5) pa_nil)))))) (pss_one (ps_ret (pe_tup (pa_cons (pv 3) (pa_cons (pv 4) pa_nil))))) pss_nil)
        (pss_one (ps_expr (k_bm (K := K) rfl PySem.F.plainAttrs_list PySem.F.slot_list_append PySem.F.type_list_append mt_append (pv 3) (pa_cons (cl (ok_behind T) (hr.mono (by decide)) rfl (pa_cons (pe_ix (k_ixL (K := K) rfl) (pv 3) (pe_un un_neg pe_int) (fun _ _ => rfl)) (pa_cons (pv 5) pa_nil))) pa_nil))))))
        (pss_one (ps_ret (pe_tup (pa_cons (pv 3) (pa_cons pe_non pa_nil))))))), ?_⟩
    obtain ⟨v, u, w, ss, ps, sts, rfl, hB, hT, ⟨a, ws, rfl, ha, hP⟩, el, hl, hs, h40, hF, k⟩ := h
    have lw := Paired.length hP
    refine ⟨_, rfl, by show 1 ≤ sizeLine; decide, fun D nD => ?_⟩
    have s0 := sn (o := .lst [u]) nD
    refine ⟨_, rfl, a, _, rfl, SqT.of (s0 _ _ ha), for_it (walk_enumT (xs := ws)) (fun i σ H' => ∃ v4 v5, σ = [some v, some u, some (.ref a), some (.ref D), v4, v5] ∧ Same H H' ∧ ∃ xs z, H' D = some (.lst (xs ++ [z])) ∧ xs.length ≤ i ∧ TP H' z (runEnd ps (sts.take i)))
      ⟨none, none, rfl, s0, [], u, upd_same, Nat.zero_le _, hT.up (kp s0)⟩ (fun i σ H' _ p => ?_) (fun i x σ H1 H2 hi p y => ?_) (fun σ H1 p => ?_)⟩
    · obtain ⟨_, _, _, s1, _⟩ := p
      exact SqT.of (s1 _ _ ha)
    · obtain ⟨v4, v5, rfl, s1, xs, z, hD, hx, hz⟩ := p
      obtain ⟨U, x1, x2, rfl, nU, rfl, y1, y2⟩ := y
      cases Option.some.inj y1
      obtain ⟨st, e1, hst⟩ := paired_at hP y2
      have sU := sn (o := .tup [.int (i : Nat), x2]) nU
      have sHU := s1.trans sU
      have hD2 := sU _ _ hD
      have hlz : (runEnd ps (sts.take i)).length = ss.length := runEnd_len _ _ el fun st hm => hs st (List.mem_of_mem_take hm)
      have hle := hs st (List.mem_of_getElem? e1)
      refine ⟨U, _, rfl, SqT.of upd_same, rfl, _, _, rfl, _, _, rfl, rfl, ?_⟩
      refine ⟨_, rfl, _, rfl, 1, rfl, D, _, -1, z, rfl, rfl, SqL.of hD2, atI_last _ _, _, rfl, ?_⟩
      refine ⟨v, z, x2, ss, runEnd ps (sts.take i), st, rfl, hB.up (kp sHU), hz.up (kp sU), hst.up (kp sHU), hlz, hle, h40, FreeRun.at sts ps i st hF e1, fun H3 s3 => ?_⟩
      refine ⟨_, rfl, ifn0 rfl ?_⟩
      have hD3 := s3 _ _ hD2
      refine ⟨_, rfl, .inl ⟨rfl, _, SqL.of hD3⟩, _, rfl, 1, rfl, D, _, -1, z, rfl, rfl, SqL.of hD3, atI_last _ _, _, rfl, ?_⟩
      refine ⟨z, x2, runEnd ps (sts.take i), st, rfl, hz.up (kp (sU.trans s3)), hst.up (kp (sHU.trans s3)), by omega, by omega, fun H4 z2 s4 hz2 => ?_⟩
      have hD4 := s4 _ _ hD3
      refine ⟨D, _, z2, rfl, rfl, hD4, by rw [List.length_append, List.length_singleton]; exact lt_line (by omega), ?_⟩
      refine ⟨_, _, rfl, same_mut ((sHU.trans s3).trans s4) nD, xs ++ [z], z2, upd_same, by rw [List.length_append, List.length_singleton]; omega, ?_⟩
      rw [runEnd_snoc e1]
      exact hz2.up (kpL hD4)
    · obtain ⟨v4, v5, rfl, s1, xs, z, hD, hx, hz⟩ := p
      refine ⟨_, rfl, by show 2 ≤ sizeLine; decide, fun r nr => ?_⟩
      have sr := sn (o := .tup [.ref D, .non]) nr
      have hz : TP H1 z (runEnd ps (sts.take ws.length)) := hz
      rw [lw, List.take_length] at hz
      exact k _ r D xs z (s1.trans sr) upd_same (sr _ _ hD) (hz.up (kp sr))
/-! check_script: slots 0=boxes 1=picture 2=script 3=found 4=number -/
def sp_check_script (K : PySem.W.Frag) : Sp := fun vs H Q _ => ∃ (v u w : V) (ss ps : List (Int × Int)) (sts : List (Bool × List Int)), vs = [v, u, w] ∧ BX K H v ss ∧ TP H u ps ∧ SC H w sts ∧ Clear ss ps ∧ sts.length ≤ 200 ∧ (∀ st ∈ sts, st.2.length = ss.length) ∧ ss.length ≤ 40 ∧ FreeRun ss ps sts ∧
  ∀ H' D ws z, Same H H' → H' D = some (.lst (ws ++ [z])) → TP H' z (runEnd ps sts) → Q (.ref D) H'
theorem sc_check_script : FnScope ["boxes", "picture", "script", "found", "number"] ["boxes", "picture", "script"] (defScope (top 42)) := ⟨rfl, rfl, rfl, by decide +kernel, rfl, by decide +kernel, by decide +kernel⟩
theorem ok_check_script {P : Program} {w : World} {K : PySem.W.Frag} {mg : Str → Option Value} {base : Heap} (T : Tx K mg) : Fn P w K mg base "check_script" 7 ["boxes", "picture", "script"] (sp_check_script K) := by
  refine mkFn (k := 6) T.t_check_script sc_check_script (fun vs H Q E h => ?_) (fun _ _ _ _ _ _ us hl => match us, hl with | [_, _, _], _ => rfl) (fun f cdv A outer s H vs Q E hr h => ?_)
  · obtain ⟨v, u, w, ss, ps, sts, rfl, hB, hT, hS, hC, hl, hs, h40, hF, k⟩ := h <;> rfl
  · refine ⟨_, (pss_cons (ps_expr (cl (ok_check_picture T) (hr.mono (by decide)) rfl (pa_cons (pv 0) (pa_cons (pv 1) pa_nil))))
        (pss_cons (ps_if (pt_not (pt_val (cl (ok_is_form T) (hr.mono (by decide)) rfl (pa_cons (pv 0) (pa_cons (pv 2) pa_nil))))) pss_never pss_nil)
        (pss_cons (ps_asg (cl (ok_run_of T) (hr.mono (by decide)) rfl (pa_cons (pv 0) (pa_cons (pv 1) (pa_cons (pv 2) pa_nil)))) (pg_tup rfl (pgs_cons (pg_name (i := 3) sc_check_script.nd rfl (by first | exact Or.inl rfl | exact Or.inr rfl)) (pgs_cons (pg_name (i := 4) sc_check_script.nd rfl (by first | exact Or.inl rfl | exact Or.inr rfl)) pgs_nil))))
        (pss_cons (ps_if (pt_cmpR op_notN (pv 4) pe_non (nomark _)) pss_never pss_nil)
        (pss_one (ps_ret (pv 3))))))), ?_⟩
    obtain ⟨v, u, w, ss, ps, sts, rfl, hB, hT, hS, hC, hl, hs, h40, hF, k⟩ := h
    refine ⟨_, rfl, _, rfl, v, u, ss, ps, rfl, hB, hT, hC, h40, fun H1 s1 => ?_⟩
    refine ⟨_, rfl, _, rfl, v, w, ss, sts, rfl, hB.up (kp s1), hS.up (kp s1), hl, hs, h40, fun H2 s2 => ⟨_, rfl, ifn0 rfl ?_⟩⟩
    have s12 := s1.trans s2
    refine ⟨_, rfl, _, rfl, _, rfl, v, u, w, ss, ps, sts, rfl, hB.up (kp s12), hT.up (kp s12), hS.up (kp s12), hC.1, hl, hs, h40, hF, fun H3 a D ws z s3 ha hD hz => ?_⟩
    refine ⟨a, _, rfl, SqT.of ha, rfl, _, _, rfl, _, _, rfl, rfl, ?_⟩
    exact ⟨_, rfl, rfl, _, rfl, if0 (by decide) ⟨_, rfl, k H3 D ws z (s12.trans s3) hD hz⟩⟩
/-! led: slots 0=boxes 1=picture 2=script -/
def sp_led (K : PySem.W.Frag) : Sp := fun vs H Q _ => ∃ (v u w : V) (ss ps : List (Int × Int)) (sts : List (Bool × List Int)), vs = [v, u, w] ∧ BX K H v ss ∧ TP H u ps ∧ SC H w sts ∧ Clear ss ps ∧ sts.length ≤ 200 ∧ (∀ st ∈ sts, st.2.length = ss.length) ∧ ss.length ≤ 40 ∧ FreeRun ss ps sts ∧
  ∀ H' z, Same H H' → TP H' z (runEnd ps sts) → Q z H'
theorem sc_led : FnScope ["boxes", "picture", "script"] ["boxes", "picture", "script"] (defScope (top 43)) := ⟨rfl, rfl, rfl, by decide +kernel, rfl, by decide +kernel, by decide +kernel⟩
theorem ok_led {P : Program} {w : World} {K : PySem.W.Frag} {mg : Str → Option Value} {base : Heap} (T : Tx K mg) : Fn P w K mg base "led" 8 ["boxes", "picture", "script"] (sp_led K) := by
  refine mkFn (k := 7) T.t_led sc_led (fun vs H Q E h => ?_) (fun _ _ _ _ _ _ us hl => match us, hl with | [_, _, _], _ => rfl) (fun f cdv A outer s H vs Q E hr h => ?_)
  · obtain ⟨v, u, w, ss, ps, sts, rfl, hB, hT, hS, hC, hl, hs, h40, hF, k⟩ := h <;> rfl
  · refine ⟨_, (pss_one (ps_ret (pe_ix (k_ixL (K := K) rfl) (cl (ok_check_script T) (hr.mono (by decide)) rfl (pa_cons (pv 0) (pa_cons (pv 1) (pa_cons (pv 2) pa_nil)))) (pe_un un_neg pe_int) (fun _ _ => rfl)))), ?_⟩
    obtain ⟨v, u, w, ss, ps, sts, rfl, hB, hT, hS, hC, hl, hs, h40, hF, k⟩ := h
    refine ⟨_, rfl, _, rfl, _, rfl, v, u, w, ss, ps, sts, rfl, hB, hT, hS, hC, hl, hs, h40, hF, fun H1 D ws z s1 hD hz => ?_⟩
    exact ⟨1, rfl, D, _, -1, z, rfl, rfl, SqL.of hD, atI_last _ _, k H1 z s1 hz⟩
/-! is_script: slots 0=boxes 1=picture 2=thing -/
def sp_is_script (K : PySem.W.Frag) : Sp := fun vs H Q _ => ∃ (v u w : V) (ss ps : List (Int × Int)) (sts : List (Bool × List Int)), vs = [v, u, w] ∧ BX K H v ss ∧ TP H u ps ∧ SC H w sts ∧ Clear ss ps ∧ sts.length ≤ 200 ∧ (∀ st ∈ sts, st.2.length = ss.length) ∧ ss.length ≤ 40 ∧ FreeRun ss ps sts ∧
  ∀ H', Same H H' → Q (.bl true) H'
theorem sc_is_script : FnScope ["boxes", "picture", "thing"] ["boxes", "picture", "thing"] (defScope (top 44)) := ⟨rfl, rfl, rfl, by decide +kernel, rfl, by decide +kernel, by decide +kernel⟩
theorem ok_is_script {P : Program} {w : World} {K : PySem.W.Frag} {mg : Str → Option Value} {base : Heap} (T : Tx K mg) : Fn P w K mg base "is_script" 7 ["boxes", "picture", "thing"] (sp_is_script K) := by
  refine mkFn (k := 6) T.t_is_script sc_is_script (fun vs H Q E h => ?_) (fun _ _ _ _ _ _ us hl => match us, hl with | [_, _, _], _ => rfl) (fun f cdv A outer s H vs Q E hr h => ?_)
  · obtain ⟨v, u, w, ss, ps, sts, rfl, hB, hT, hS, hC, hl, hs, h40, hF, k⟩ := h <;> rfl
  · refine ⟨_, (pss_cons (ps_expr (cl (ok_check_picture T) (hr.mono (by decide)) rfl (pa_cons (pv 0) (pa_cons (pv 1) pa_nil))))
        (pss_one (ps_ret (pe_and (cl (ok_is_form T) (hr.mono (by decide)) rfl (pa_cons (pv 0) (pa_cons (pv 2) pa_nil))) (pe_one (pe_cmpR op_isN (pe_ix (k_ixT (K := K) rfl) (cl (ok_run_of T) (hr.mono (by decide)) rfl (pa_cons (pv 0) (pa_cons (pv 1) (pa_cons (pv 2) pa_nil)))) pe_int (fun _ _ => rfl)) pe_non (nomark _))))))), ?_⟩
    obtain ⟨v, u, w, ss, ps, sts, rfl, hB, hT, hS, hC, hl, hs, h40, hF, k⟩ := h
    refine ⟨_, rfl, _, rfl, v, u, ss, ps, rfl, hB, hT, hC, h40, fun H1 s1 => ?_⟩
    refine ⟨_, rfl, _, rfl, v, w, ss, sts, rfl, hB.up (kp s1), hS.up (kp s1), hl, hs, h40, fun H2 s2 => ⟨_, rfl, iteT ?_⟩⟩
    have s12 := s1.trans s2
    refine ⟨_, rfl, _, rfl, _, rfl, v, u, w, ss, ps, sts, rfl, hB.up (kp s12), hT.up (kp s12), hS.up (kp s12), hC.1, hl, hs, h40, hF, fun H3 a D ws z s3 ha hD hz => ?_⟩
    exact ⟨a, _, 1, _, rfl, rfl, SqT.of ha, atI_nat (j := 1) rfl, rfl, qb (by decide) (k H3 (s12.trans s3))⟩
end K20

/-! Plain mathematics of lists, turned lots, stands, strokes: no program in sight. -/
namespace K20

/-! ### places in an order -/
def pos (l : List Nat) (x : Nat) : Nat := l.idxOf x
theorem pos_of {l : List Nat} {x i : Nat} (hn : l.Nodup) (h : l[i]? = some x) : pos l x = i := by
  obtain ⟨hi, e⟩ := List.getElem?_eq_some_iff.mp h
  subst e
  exact List.Nodup.idxOf_getElem hn i hi
theorem at_pos {l : List Nat} {x : Nat} (h : x ∈ l) : l[pos l x]? = some x := by
  have hi : pos l x < l.length := List.idxOf_lt_length_of_mem h
  rw [List.getElem?_eq_getElem hi]
  exact congrArg some (List.getElem_idxOf hi)
theorem pos_lt {l : List Nat} {x : Nat} (h : x ∈ l) : pos l x < l.length := List.idxOf_lt_length_of_mem h
theorem pos_inj {l : List Nat} {x y : Nat} (hx : x ∈ l) (hy : y ∈ l) (e : pos l x = pos l y) : x = y := by
  have h1 := at_pos hx
  have h2 := at_pos hy
  rw [e, h2] at h1
  exact (Option.some.inj h1).symm
theorem pos_first {l : List Nat} {x m : Nat} (hn : l.Nodup) (h : x ∈ l) (hm : m < pos l x) : l[m]? ≠ some x := fun e => by
  have := pos_of hn e
  omega
theorem mem_take_pos {l : List Nat} {x k : Nat} (hn : l.Nodup) : x ∈ l.take k ↔ x ∈ l ∧ pos l x < k := by
  constructor
  · intro h
    obtain ⟨i, hi⟩ := List.mem_iff_getElem?.mp h
    rw [List.getElem?_take] at hi
    split at hi
    · rename_i hk
      exact ⟨List.mem_of_getElem? hi, by rw [pos_of hn hi]; exact hk⟩
    · cases hi
  · rintro ⟨h1, h2⟩
    have h3 := at_pos h1
    refine List.mem_iff_getElem?.mpr ⟨pos l x, ?_⟩
    rw [List.getElem?_take, if_pos h2]
    exact h3

/-! ### the greatest, 0 at least -/
def mx0 (l : List Int) : Int := l.foldr max 0
theorem mx0_nn : ∀ l : List Int, 0 ≤ mx0 l
  | [] => Int.le_refl 0
  | a :: l => by
    have := mx0_nn l
    show 0 ≤ max a (mx0 l)
    omega
theorem mx0_le {l : List Int} {a : Int} (h : a ∈ l) : a ≤ mx0 l := by
  induction l with
  | nil => cases h
  | cons b l ih =>
    show a ≤ max b (mx0 l)
    rcases List.mem_cons.mp h with e | h
    · omega
    · have := ih h
      omega
theorem mx0_in : ∀ l : List Int, mx0 l = 0 ∨ mx0 l ∈ l
  | [] => .inl rfl
  | a :: l => by
    have e : mx0 (a :: l) = max a (mx0 l) := rfl
    rcases mx0_in l with h | h
    · by_cases ha : 0 ≤ a
      · right
        rw [e, h, show max a 0 = a by omega]
        exact List.mem_cons_self
      · left
        rw [e, h]
        omega
    · by_cases ha : mx0 l ≤ a
      · right
        rw [e, show max a (mx0 l) = a by omega]
        exact List.mem_cons_self
      · right
        rw [e, show max a (mx0 l) = mx0 l by omega]
        exact List.mem_cons_of_mem _ h
/-- what max(l + [0]) gives -/
theorem mx0_of {l : List Int} {m : Int} (h1 : m ∈ l ++ [0]) (h2 : ∀ y ∈ l ++ [0], y ≤ m) : m = mx0 l := by
  have h0 := h2 0 (by simp)
  have n0 := mx0_nn l
  rcases List.mem_append.mp h1 with h | h
  · have a := mx0_le h
    rcases mx0_in l with e | e
    · omega
    · have := h2 (mx0 l) (List.mem_append_left _ e)
      omega
  · have e0 : m = 0 := by simpa using h
    rcases mx0_in l with e | e
    · omega
    · have := h2 (mx0 l) (List.mem_append_left _ e)
      omega
theorem mx0_bound {l : List Int} {b : Int} (h0 : 0 ≤ b) : mx0 l ≤ b ↔ ∀ y ∈ l, y ≤ b := by
  constructor
  · intro h y hy
    have := mx0_le hy
    omega
  · intro h
    rcases mx0_in l with e | e
    · omega
    · exact h _ e

/-! ### chains of turned things -/
/-- e stands ahead of x in the one list, behind it in the other -/
def tw (one other : List Nat) (e x : Nat) : Prop := pos one e < pos one x ∧ pos other x < pos other e
theorem tw_trans {one other : List Nat} {a b c : Nat} (h1 : tw one other a b) (h2 : tw one other b c) : tw one other a c := ⟨by have := h1.1; have := h2.1; omega, by have := h1.2; have := h2.2; omega⟩
/-- those ahead of x in the one list, behind it in the other -/
def ah (one other : List Nat) (x : Nat) : List Nat := (one.take (pos one x)).filter fun e => decide (pos other x < pos other e)
theorem mem_ah {one other : List Nat} {e x : Nat} (hn : one.Nodup) : e ∈ ah one other x ↔ e ∈ one ∧ tw one other e x := by
  unfold ah tw
  rw [List.mem_filter, mem_take_pos hn, decide_eq_true_iff]
  exact ⟨fun h => ⟨h.1.1, h.1.2, h.2⟩, fun h => ⟨⟨h.1, h.2.1⟩, h.2.2⟩⟩
def bf (one other : List Nat) (W : Nat → Int) : Nat → Nat → Int
  | 0, _ => 0
  | k + 1, x => W x + mx0 ((ah one other x).map (bf one other W k))
/-- the greatest weight of a chain that ends with x -/
def best (one other : List Nat) (W : Nat → Int) (x : Nat) : Int := bf one other W (pos one x + 1) x
theorem bf_fuel {one other : List Nat} {W : Nat → Int} (hn : one.Nodup) : ∀ (k x : Nat), pos one x < k → bf one other W k x = best one other W x
  | 0, _, h => by omega
  | k + 1, x, h => by
    show W x + mx0 ((ah one other x).map (bf one other W k)) = W x + mx0 ((ah one other x).map (bf one other W (pos one x)))
    have e : (ah one other x).map (bf one other W k) = (ah one other x).map (bf one other W (pos one x)) := by
      refine List.map_congr_left fun e he => ?_
      have h2 := ((mem_ah hn).mp he).2.1
      rw [bf_fuel hn k e (by omega)]
      by_cases hk : pos one x = k
      · rw [hk, bf_fuel hn k e (by omega)]
      · rw [bf_fuel hn (pos one x) e h2]
    rw [e]
termination_by k => k
decreasing_by all_goals omega
theorem best_eq {one other : List Nat} {W : Nat → Int} (hn : one.Nodup) (x : Nat) : best one other W x = W x + mx0 ((ah one other x).map (best one other W)) := by
  show W x + mx0 ((ah one other x).map (bf one other W (pos one x))) = _
  have e : (ah one other x).map (bf one other W (pos one x)) = (ah one other x).map (best one other W) := by
    refine List.map_congr_left fun e he => ?_
    exact bf_fuel hn _ e ((mem_ah hn).mp he).2.1
  rw [e]
/-- the left edge -/
def lef (one other : List Nat) (W : Nat → Int) (x : Nat) : Int := mx0 ((ah one other x).map (best one other W))
theorem best_lef {one other : List Nat} {W : Nat → Int} (hn : one.Nodup) (x : Nat) : best one other W x = W x + lef one other W x := best_eq hn x
/-- whether no turned lot is broader -/
def fine (one other : List Nat) (W : Nat → Int) (width : Int) : Bool := decide (mx0 (one.map (best one other W)) ≤ width)

/-! ### left edges that are a stand -/
def Stand (n : Nat) (one other : List Nat) (W : Nat → Int) (width : Int) (L : Nat → Int) : Prop :=
  (∀ x, x < n → 0 ≤ L x ∧ L x ≤ width - W x) ∧ ∀ e x, e < n → x < n → tw one other e x → L e + W e ≤ L x ∨ L x + W x ≤ L e
def wsum (W : Nat → Int) (c : List Nat) : Int := (c.map W).sum
theorem chain_of {one other : List Nat} {W : Nat → Int} (hn : one.Nodup) : ∀ (k x : Nat), pos one x < k → x ∈ one →
    ∃ c : List Nat, (x :: c).Pairwise (fun a b => tw one other b a) ∧ (∀ y ∈ x :: c, y ∈ one) ∧ best one other W x = wsum W (x :: c)
  | 0, _, h, _ => by omega
  | k + 1, x, h, hx => by
    rcases mx0_in ((ah one other x).map (best one other W)) with e | e
    · refine ⟨[], List.pairwise_singleton _ _, fun y hy => by rw [List.mem_singleton.mp hy]; exact hx, ?_⟩
      rw [best_eq hn, e]
      simp [wsum]
    · obtain ⟨y, hy, ey⟩ := List.mem_map.mp e
      obtain ⟨hy1, hy2⟩ := (mem_ah hn).mp hy
      obtain ⟨c, h1, h2, h3⟩ := chain_of hn k y (by have := hy2.1; omega) hy1
      refine ⟨y :: c, List.pairwise_cons.mpr ⟨fun b hb => ?_, h1⟩, fun z hz => ?_, ?_⟩
      · rcases List.mem_cons.mp hb with e | hb
        · rw [e]; exact hy2
        · exact tw_trans ((List.pairwise_cons.mp h1).1 b hb) hy2
      · rcases List.mem_cons.mp hz with e | hz
        · rw [e]; exact hx
        · exact h2 z hz
      · rw [best_eq hn, ← ey, h3]
        simp [wsum]
theorem max_at (L : Nat → Int) : ∀ (c : List Nat), c ≠ [] → ∃ m ∈ c, ∀ a ∈ c, L a ≤ L m
  | [], h => absurd rfl h
  | [a], _ => ⟨a, List.mem_singleton.mpr rfl, fun b hb => by rw [List.mem_singleton.mp hb]; exact Int.le_refl _⟩
  | a :: b :: c, _ => by
    obtain ⟨m, h1, h2⟩ := max_at L (b :: c) (by simp)
    by_cases h : L m ≤ L a
    · refine ⟨a, List.mem_cons_self, fun z hz => ?_⟩
      rcases List.mem_cons.mp hz with e | hz
      · rw [e]; exact Int.le_refl _
      · have := h2 z hz
        omega
    · refine ⟨m, List.mem_cons_of_mem _ h1, fun z hz => ?_⟩
      rcases List.mem_cons.mp hz with e | hz
      · rw [e]; omega
      · exact h2 z hz
theorem perm_sum {a b : List Int} (h : a.Perm b) : a.sum = b.sum := by
  induction h with
  | nil => rfl
  | cons x _ ih => rw [List.sum_cons, List.sum_cons, ih]
  | swap x y l =>
    simp only [List.sum_cons]
    omega
  | trans _ _ i1 i2 => exact i1.trans i2
/-- stretches apart from one another within a width are together no longer than it -/
theorem pack (L W : Nat → Int) : ∀ (k : Nat) (c : List Nat) (wd : Int), c.length = k → 0 ≤ wd → (∀ a ∈ c, 0 ≤ L a ∧ L a + W a ≤ wd ∧ 1 ≤ W a) → c.Pairwise (fun a b => L a + W a ≤ L b ∨ L b + W b ≤ L a) → wsum W c ≤ wd
  | 0, c, wd, hl, h0, _, _ => by
    have e : c = [] := List.length_eq_zero_iff.mp hl
    subst e
    simpa [wsum] using h0
  | k + 1, c, wd, hl, h0, ha, hp => by
    obtain ⟨m, hm, hmax⟩ := max_at L c (by intro e; rw [e] at hl; cases hl)
    have pm : c.Perm (m :: c.erase m) := List.perm_cons_erase hm
    have hp2 : (m :: c.erase m).Pairwise (fun a b => L a + W a ≤ L b ∨ L b + W b ≤ L a) := (pm.pairwise_iff (fun h => h.symm)).mp hp
    obtain ⟨q1, q2⟩ := List.pairwise_cons.mp hp2
    have hle : (c.erase m).length = k := by
      have := pm.length_eq
      rw [List.length_cons] at this
      omega
    have am := ha m hm
    have ih := pack L W k (c.erase m) (L m) hle am.1 (fun a h => by
      have hac : a ∈ c := List.mem_of_mem_erase h
      have x1 := ha a hac
      have x2 := hmax a hac
      refine ⟨x1.1, ?_, x1.2.2⟩
      rcases q1 a h with z | z
      · omega
      · exact z) q2
    have es : wsum W c = W m + wsum W (c.erase m) := by
      unfold wsum
      rw [perm_sum (pm.map W)]
      simp
    rw [es]
    omega
theorem fine_of_stand {n : Nat} {one other : List Nat} {W : Nat → Int} {width : Int} {L : Nat → Int} (h1 : one.Perm (List.range n)) (hW : ∀ x, x < n → 1 ≤ W x) (h0 : 0 ≤ width) (hs : Stand n one other W width L) : fine one other W width = true := by
  have hn : one.Nodup := (List.Perm.nodup_iff h1).mpr List.nodup_range
  have hlt : ∀ x ∈ one, x < n := fun x hx => List.mem_range.mp ((List.Perm.mem_iff h1).mp hx)
  refine decide_eq_true ((mx0_bound h0).mpr fun y hy => ?_)
  obtain ⟨x, hx, rfl⟩ := List.mem_map.mp hy
  obtain ⟨c, c1, c2, c3⟩ := chain_of hn (W := W) (other := other) (pos one x + 1) x (by omega) hx
  rw [c3]
  refine pack L W _ (x :: c) width rfl h0 (fun a ha => ?_) ?_
  · have q := hs.1 a (hlt a (c2 a ha))
    exact ⟨q.1, by omega, hW a (hlt a (c2 a ha))⟩
  · refine List.Pairwise.imp_of_mem (fun {a b} ma mb t => ?_) c1
    exact (hs.2 b a (hlt b (c2 b mb)) (hlt a (c2 a ma)) t).symm
theorem stand_of_fine {n : Nat} {one other : List Nat} {W : Nat → Int} {width : Int} (h1 : one.Perm (List.range n)) (h0 : 0 ≤ width) (hf : fine one other W width = true) : Stand n one other W width (lef one other W) := by
  have hn : one.Nodup := (List.Perm.nodup_iff h1).mpr List.nodup_range
  have hm : ∀ x, x < n → x ∈ one := fun x hx => (List.Perm.mem_iff h1).mpr (List.mem_range.mpr hx)
  have hb := (mx0_bound h0).mp (of_decide_eq_true hf)
  refine ⟨fun x hx => ⟨mx0_nn _, ?_⟩, fun e x he hx t => .inl ?_⟩
  · have q := hb _ (List.mem_map_of_mem (hm x hx))
    rw [best_lef hn] at q
    omega
  · have q : best one other W e ≤ lef one other W x := mx0_le (List.mem_map_of_mem ((mem_ah hn).mpr ⟨hm e he, t⟩))
    rw [best_lef hn] at q
    omega
/-- lefts all inside: fine -/
theorem inside_iff {n : Nat} {one other : List Nat} {W : Nat → Int} {width : Int} (h1 : one.Perm (List.range n)) (h0 : 0 ≤ width) : fine one other W width = true ↔ ∀ x, x < n → 0 ≤ lef one other W x ∧ lef one other W x ≤ width - W x := by
  have hn : one.Nodup := (List.Perm.nodup_iff h1).mpr List.nodup_range
  have hlt : ∀ x ∈ one, x < n := fun x hx => List.mem_range.mp ((List.Perm.mem_iff h1).mp hx)
  constructor
  · intro h
    exact (stand_of_fine h1 h0 h).1
  · intro h
    refine decide_eq_true ((mx0_bound h0).mpr fun y hy => ?_)
    obtain ⟨x, hx, rfl⟩ := List.mem_map.mp hy
    have q := (h x (hlt x hx)).2
    rw [best_lef hn]
    omega
end K20

namespace K20
open PySem PySem.Spec PyProof.Rows L2
/-! ### dicts that a loop fills: keys are numbers -/
/-- as Kp, but lists stand too -/
def Kq (H H' : Hp) : Prop := ∀ a u, H a = some u → H' a = some u ∨ ∃ k1 k2, u = .dK k1 ∧ H' a = some (.dK k2)
theorem kq {H H' : Hp} (s : Same H H') : Kq H H' := fun a u h => .inl (s a u h)
theorem Kq.kp {H H' : Hp} (q : Kq H H') : Kp H H' := fun a u h => by
  rcases q a u h with e | ⟨k1, k2, rfl, e⟩
  · exact ⟨u, e, Sk.refl u⟩
  · exact ⟨_, e, k2, rfl⟩
theorem kqD {H : Hp} {D : Addr} {xs ys : List (Key × V)} (h : H D = some (.dK xs)) : Kq H (upd H D (.dK ys)) := fun c u hc => by
  by_cases e : c = D
  · subst e
    rw [h] at hc
    cases hc
    exact .inr ⟨xs, ys, rfl, upd_same⟩
  · exact .inl (by rw [upd_ne e]; exact hc)
/-- the dict at d: for each x of l a thing of which R x holds -/
def DD (R : Nat → V → Hp → Prop) (H : Hp) (d : Addr) (l : List Nat) : Prop := ∃ kvs, H d = some (.dK kvs) ∧ Paired (fun (kv : Key × V) (x : Nat) => kv.1 = Sum.inl (x : Int) ∧ R x kv.2 H) kvs l
def Stb (R : Nat → V → Hp → Prop) : Prop := ∀ x v H H', Kq H H' → R x v H → R x v H'
section
variable {R : Nat → V → Hp → Prop} {H H' : Hp} {d : Addr} {l : List Nat}
theorem DD.nil (h : H d = some (.dK [])) : DD R H d [] := ⟨[], h, .nil⟩
theorem DD.up (hR : Stb R) (h : DD R H d l) (s : Same H H') : DD R H' d l := by
  obtain ⟨kvs, e, p⟩ := h
  exact ⟨kvs, s _ _ e, prd_imp p fun _ _ q => ⟨q.1, hR _ _ _ _ (kq s) q.2⟩⟩
theorem keys_none : ∀ {kvs : List (Key × V)} {l : List Nat} {F : Key × V → Nat → Prop}, Paired F kvs l → (∀ kv x, F kv x → kv.1 = Sum.inl (x : Int)) → ∀ {x : Nat}, x ∉ l → valV kvs (Sum.inl (x : Int)) = none
  | _, _, _, .nil, _, _, _ => rfl
  | _, _, _, .cons h t, f, x, hx => by
    have e := f _ _ h
    have ne : ¬ ((Sum.inl (x : Int) : Key) = Sum.inl (x : Int)) → False := fun z => z rfl
    rw [valV_neg (fun z => hx (by
      rw [e] at z
      have z2 := Sum.inl.inj z
      have : x = _ := (Int.ofNat.inj z2).symm
      rw [this]
      exact List.mem_cons_self))]
    exact keys_none t f fun m => hx (List.mem_cons_of_mem _ m)
theorem DD.put (hR : Stb R) (h : DD R H d l) {x : Nat} {v : V} (hx : x ∉ l) (hl : l.length ≤ 1000) (hv : R x v H) :
    ∃ H4, DPut H d (.int (x : Nat)) v H4 ∧ DD R H4 d (l ++ [x]) ∧ Kq H H4 ∧ ∀ H0, Same H0 H → H0 d = none → Same H0 H4 := by
  obtain ⟨kvs, e, p⟩ := h
  have lk := Paired.length p
  have e0 : valV kvs (Sum.inl (x : Int) : Key) = none := keys_none p (fun _ _ q => q.1) hx
  refine ⟨upd H d (.dK (putK kvs (Sum.inl (x : Int)) v)), DPut.k (k := Sum.inl (x : Int)) e (by rw [lk]; exact lt_line (by omega)), ⟨_, upd_same, ?_⟩, kqD e, fun H0 s n => same_mut s n⟩
  rw [putK_new v e0]
  exact (prd_imp p fun _ _ q => ⟨q.1, hR _ _ _ _ (kqD e) q.2⟩).snoc ⟨rfl, hR _ _ _ _ (kqD e) hv⟩
theorem vals_at : ∀ {kvs : List (Key × V)} {l : List Nat} {F : Nat → V → Prop}, Paired (fun (kv : Key × V) (x : Nat) => kv.1 = Sum.inl (x : Int) ∧ F x kv.2) kvs l → l.Nodup → ∀ {x : Nat}, x ∈ l → ∃ v, valV kvs (Sum.inl (x : Int)) = some v ∧ F x v
  | _, _, _, .nil, _, _, hx => by cases hx
  | kv :: kvs, y :: l, F, .cons h t, hn, x, hx => by
    by_cases e : x = y
    · subst e
      exact ⟨kv.2, valV_pos h.1, h.2⟩
    · have hx2 : x ∈ l := by
        rcases List.mem_cons.mp hx with z | z
        · exact absurd z e
        · exact z
      rw [valV_neg (fun z => e (by
        rw [h.1] at z
        exact (Int.ofNat.inj (Sum.inl.inj z)).symm))]
      exact vals_at t (List.nodup_cons.mp hn).2 hx2
theorem DD.get (h : DD R H d l) (hn : l.Nodup) {x : Nat} (hx : x ∈ l) : ∃ v, DGet H d (.int (x : Nat)) (some v) ∧ R x v H := by
  obtain ⟨kvs, e, p⟩ := h
  obtain ⟨v, e1, e2⟩ := vals_at (F := fun x v => R x v H) p hn hx
  exact ⟨v, by rw [← e1]; exact DGet.k (k := Sum.inl (x : Int)) e, e2⟩
theorem prd_vals : ∀ {kvs : List (Key × V)} {l : List Nat} {F : Nat → V → Prop}, Paired (fun (kv : Key × V) (x : Nat) => kv.1 = Sum.inl (x : Int) ∧ F x kv.2) kvs l → Paired (fun v x => F x v) (kvs.map (·.2)) l
  | _, _, _, .nil => .nil
  | _, _, _, .cons h t => .cons h.2 (prd_vals t)
end
/-- the numbers of a list in a list object -/
def LI (H : Hp) (v : V) (l : List Nat) : Prop := ∃ a, v = .ref a ∧ H a = some (.lst ((NI l).map V.int))
theorem LI.kq {H H' : Hp} {v : V} {l : List Nat} (h : LI H v l) (q : Kq H H') : LI H' v l := by
  obtain ⟨a, e, h⟩ := h
  rcases q a _ h with z | ⟨k1, k2, z, _⟩
  · exact ⟨a, e, z⟩
  · cases z
theorem NI_take (l : List Nat) (i : Nat) : (NI l).take i = NI (l.take i) := by
  unfold NI
  rw [List.map_take]
theorem NI_at {l : List Nat} {i : Nat} {x : V} (h : ((NI l).map V.int)[i]? = some x) : ∃ j : Nat, l[i]? = some j ∧ x = .int (j : Nat) := by
  obtain ⟨n, e, rfl⟩ := mapI_get h
  unfold NI at e
  rw [List.getElem?_map] at e
  cases e2 : l[i]? with
  | none => rw [e2] at e; cases e
  | some j =>
    rw [e2] at e
    exact ⟨j, rfl, congrArg V.int (Option.some.inj e).symm⟩
theorem NI_vlen (l : List Nat) : ((NI l).map V.int).length = l.length := by rw [List.length_map, NI_len]
theorem NI_vget {l : List Nat} {i j : Nat} (h : l[i]? = some j) : ((NI l).map V.int)[i]? = some (.int (j : Nat)) := by
  rw [List.getElem?_map, NI_get h]
  rfl
/-- widths, heights by numbers -/
def wd (ss : List (Int × Int)) (x : Nat) : Int := (ss.getD x (0, 0)).1
def ht (ss : List (Int × Int)) (x : Nat) : Int := (ss.getD x (0, 0)).2
theorem ss_at {ss : List (Int × Int)} {x : Nat} (h : x < ss.length) : ss[x]? = some (wd ss x, ht ss x) := by
  unfold wd ht
  rw [List.getD_eq_getElem?_getD, List.getElem?_eq_getElem h]
  rfl
/-- the boxes are right -/
structure Wf (ss : List (Int × Int)) : Prop where
  pos : 1 ≤ ss.length
  le : ss.length ≤ 40
  w1 : ∀ x, x < ss.length → 1 ≤ wd ss x ∧ wd ss x ≤ 1000
  h1 : ∀ x, x < ss.length → 1 ≤ ht ss x ∧ ht ss x ≤ 1000
theorem ss_map (ss : List (Int × Int)) : ss.map (fun s => s.1) = (List.range ss.length).map (wd ss) := by
  refine List.ext_getElem? fun i => ?_
  rw [List.getElem?_map, List.getElem?_map]
  by_cases h : i < ss.length
  · rw [ss_at h, List.getElem?_range h]
    rfl
  · rw [List.getElem?_eq_none (by omega), List.getElem?_eq_none (by rw [List.length_range]; omega)]
    rfl
/-! is_width: slots 0=boxes 1=thing 2=width 3=height -/
def sp_is_width (K : PySem.W.Frag) : Sp := fun vs H Q _ => ∃ (v : V) (ss : List (Int × Int)) (width : Int), vs = [v, .int width] ∧ BX K H v ss ∧ Wf ss ∧ (∀ x, x < ss.length → wd ss x ≤ width) ∧ width ≤ 1000000 ∧ ∀ H', Same H H' → Q (.bl true) H'
theorem sc_is_width : FnScope ["boxes", "thing", "width", "height"] ["boxes", "thing"] (defScope (top 47)) := ⟨rfl, rfl, rfl, by decide +kernel, rfl, by decide +kernel, by decide +kernel⟩
theorem ok_is_width {P : Program} {w : World} {K : PySem.W.Frag} {mg : Str → Option Value} {base : Heap} (T : Tx K mg) : Fn P w K mg base "is_width" 3 ["boxes", "thing"] (sp_is_width K) := by
  refine mkFn (k := 2) T.t_is_width sc_is_width (fun vs H Q E h => ?_) (fun _ _ _ _ _ _ us hl => match us, hl with | [_, _], _ => rfl) (fun f cdv A outer s H vs Q E hr h => ?_)
  · obtain ⟨v, ss, width, rfl, ⟨b, dx, _, rfl, hb, ta, tv, rfl, ht, hP⟩, wf, h1, h2, q⟩ := h <;> rfl
  · refine ⟨_, (pss_one (ps_ret (cl (ok_is_within T) (hr.mono (by decide)) rfl (pa_cons (pv 1) (pa_cons (pe_callB (k_max (K := K) rfl rfl) rfl T.f_max b_max (pa_cons (pe_lc (own := [("width", 2), ("height", 3)]) (g := (gTup K 2 (gCons (gName 2) (gCons (gName 3) gNil)))) (tt := tYes) rfl sc_is_width.nd (k_pt (K := K) rfl (k_fld (K := K) rfl (pv 0) rfl)) (blkOk_by (N := ["boxes", "thing", "width", "height"]) (sc := defScope (top 47)) (by decide +kernel)) (fun _ _ _ _ _ => (pg_tup rfl (pgs_cons (pg_name (i := 2) sc_is_width.nd rfl (by first | exact Or.inl rfl | exact Or.inr rfl)) (pgs_cons (pg_name (i := 3) sc_is_width.nd rfl (by first | exact Or.inl rfl | exact Or.inr rfl)) pgs_nil)))) (fun _ _ _ _ _ => pts_nil) (fun _ _ _ _ _ => (pv 2))) pa_nil)) (pa_cons (pe_gi rfl T.c_MOST_WIDTH) pa_nil)))))), ?_⟩
    obtain ⟨v, ss, width, rfl, ⟨b, dx, _, rfl, hb, ta, tv, rfl, ht, hP⟩, wf, h1, h2, q⟩ := h
    have lw := Paired.length hP
    have h40 := wf.le
    refine ⟨_, rfl, _, rfl, b, _, dx, _, _, rfl, hb, T.clB, T.nS, bF_sizes _ _, ta, rfl, ⟨_, SqT.of ht⟩, lc_map ss (fun s => .int s.1) (by rw [← lw]; exact walk_tup (xs := tv)) (by omega) (fun H' s => SqT.of (s _ _ ht)) (fun i z x H1 H2 hz s1 y Qt kk => ?_) (fun D H1 nD s1 hD => ?_)⟩
    · obtain ⟨rfl, hx⟩ := y
      obtain ⟨x', g1, c, rfl, hc⟩ := prd_get hP hz
      cases Option.some.inj (g1.symm.trans hx)
      exact ⟨c, _, rfl, SqT.of (s1 _ _ hc), rfl, _, _, rfl, _, _, rfl, rfl, rfl, _, rfl, kk _ (Same.refl _)⟩
    · refine ⟨D, ss.map (fun s => s.1), rfl, SqL.of (by rw [hD, List.map_map]; rfl), by rw [List.length_map]; exact wf.pos, fun m hm hmx => ?_⟩
      refine ⟨_, _, _, rfl, .int width, qb (inB_of ?_ h2) (q H1 s1)⟩
      rw [ss_map] at hm
      obtain ⟨x, hx, rfl⟩ := List.mem_map.mp hm
      exact h1 x (List.mem_range.mp hx)
/-! check_width: slots 0=boxes 1=thing -/
def sp_check_width (K : PySem.W.Frag) : Sp := fun vs H Q _ => ∃ (v : V) (ss : List (Int × Int)) (width : Int), vs = [v, .int width] ∧ BX K H v ss ∧ Wf ss ∧ (∀ x, x < ss.length → wd ss x ≤ width) ∧ width ≤ 1000000 ∧ ∀ H', Same H H' → Q .non H'
theorem sc_check_width : FnScope ["boxes", "thing"] ["boxes", "thing"] (defScope (top 48)) := ⟨rfl, rfl, rfl, by decide +kernel, rfl, by decide +kernel, by decide +kernel⟩
theorem ok_check_width {P : Program} {w : World} {K : PySem.W.Frag} {mg : Str → Option Value} {base : Heap} (T : Tx K mg) : Fn P w K mg base "check_width" 4 ["boxes", "thing"] (sp_check_width K) := by
  refine mkFn (k := 3) T.t_check_width sc_check_width (fun vs H Q E h => ?_) (fun _ _ _ _ _ _ us hl => match us, hl with | [_, _], _ => rfl) (fun f cdv A outer s H vs Q E hr h => ?_)
  · obtain ⟨v, ss, width, rfl, hB, wf, h1, h2, q⟩ := h <;> rfl
  · refine ⟨_, (pss_one (ps_if (pt_not (pt_val (cl (ok_is_width T) (hr.mono (by decide)) rfl (pa_cons (pv 0) (pa_cons (pv 1) pa_nil))))) pss_never pss_nil)), ?_⟩
    obtain ⟨v, ss, width, rfl, hB, wf, h1, h2, q⟩ := h
    exact ⟨_, rfl, _, rfl, v, ss, width, rfl, hB, wf, h1, h2, fun H1 s1 => ⟨_, rfl, ifn0 rfl (q H1 s1)⟩⟩
/-! check_list: slots 0=boxes 1=thing -/
def sp_check_list (K : PySem.W.Frag) : Sp := fun vs H Q _ => ∃ (v u : V) (ss : List (Int × Int)) (l : List Nat), vs = [v, u] ∧ BX K H v ss ∧ ss.length ≤ 40 ∧ TN H u l ∧ Ord ss.length l ∧ ∀ H', Same H H' → Q .non H'
theorem sc_check_list : FnScope ["boxes", "thing"] ["boxes", "thing"] (defScope (top 50)) := ⟨rfl, rfl, rfl, by decide +kernel, rfl, by decide +kernel, by decide +kernel⟩
theorem ok_check_list {P : Program} {w : World} {K : PySem.W.Frag} {mg : Str → Option Value} {base : Heap} (T : Tx K mg) : Fn P w K mg base "check_list" 5 ["boxes", "thing"] (sp_check_list K) := by
  refine mkFn (k := 4) T.t_check_list sc_check_list (fun vs H Q E h => ?_) (fun _ _ _ _ _ _ us hl => match us, hl with | [_, _], _ => rfl) (fun f cdv A outer s H vs Q E hr h => ?_)
  · obtain ⟨v, u, ss, l, rfl, ⟨b, dx, t, rfl, hb, hts⟩, h40, hl, ho, q⟩ := h <;> rfl
  · refine ⟨_, (pss_one (ps_if (pt_not (pt_val (cl (ok_is_order T) (hr.mono (by decide)) rfl (pa_cons (pv 1) (pa_cons (k_fld (K := K) rfl (pv 0) rfl) pa_nil))))) pss_never pss_nil)), ?_⟩
    obtain ⟨v, u, ss, l, rfl, ⟨b, dx, t, rfl, hb, hts⟩, h40, hl, ho, q⟩ := h
    exact ⟨_, rfl, _, rfl, b, _, dx, _, _, rfl, hb, T.clB, T.nM, bF_many _ _, u, ss.length, l, rfl, hl, ho, h40, fun H1 s1 => ⟨_, rfl, ifn0 rfl (q H1 s1)⟩⟩
/-! check_lists: slots 0=boxes 1=one 2=other -/
def sp_check_lists (K : PySem.W.Frag) : Sp := fun vs H Q _ => ∃ (v u w : V) (ss : List (Int × Int)) (l m : List Nat), vs = [v, u, w] ∧ BX K H v ss ∧ ss.length ≤ 40 ∧ TN H u l ∧ Ord ss.length l ∧ TN H w m ∧ Ord ss.length m ∧ ∀ H', Same H H' → Q .non H'
theorem sc_check_lists : FnScope ["boxes", "one", "other"] ["boxes", "one", "other"] (defScope (top 51)) := ⟨rfl, rfl, rfl, by decide +kernel, rfl, by decide +kernel, by decide +kernel⟩
theorem ok_check_lists {P : Program} {w : World} {K : PySem.W.Frag} {mg : Str → Option Value} {base : Heap} (T : Tx K mg) : Fn P w K mg base "check_lists" 6 ["boxes", "one", "other"] (sp_check_lists K) := by
  refine mkFn (k := 5) T.t_check_lists sc_check_lists (fun vs H Q E h => ?_) (fun _ _ _ _ _ _ us hl => match us, hl with | [_, _, _], _ => rfl) (fun f cdv A outer s H vs Q E hr h => ?_)
  · obtain ⟨v, u, w, ss, l, m, rfl, hB, h40, hl, ho, hm, hm2, q⟩ := h <;> rfl
  · refine ⟨_, (pss_cons (ps_expr (cl (ok_check_list T) (hr.mono (by decide)) rfl (pa_cons (pv 0) (pa_cons (pv 1) pa_nil))))
        (pss_one (ps_expr (cl (ok_check_list T) (hr.mono (by decide)) rfl (pa_cons (pv 0) (pa_cons (pv 2) pa_nil)))))), ?_⟩
    obtain ⟨v, u, w, ss, l, m, rfl, hB, h40, hl, ho, hm, hm2, q⟩ := h
    refine ⟨_, rfl, _, rfl, v, u, ss, l, rfl, hB, h40, hl, ho, fun H1 s1 => ?_⟩
    exact ⟨_, rfl, _, rfl, v, w, ss, m, rfl, hB.up (kp s1), h40, hm.up (kp s1), hm2, fun H2 s2 => q H2 (s1.trans s2)⟩
/-! ### a list's picture -/
/-- what stands ahead of the k-th, in all -/
def psum (f : Nat → Int) (l : List Nat) (k : Nat) : Int := ((l.take k).map f).sum
theorem psum_snoc {f : Nat → Int} {l : List Nat} {k x : Nat} (h : l[k]? = some x) : psum f l (k + 1) = psum f l k + f x := by
  unfold psum
  rw [take_snoc h, List.map_append, List.sum_append]
  simp
/-- the upper edge of x -/
def topO (ss : List (Int × Int)) (l : List Nat) (x : Nat) : Int := psum (ht ss) l (pos l x)
/-- the picture of a list -/
def psL (ss : List (Int × Int)) (l : List Nat) : List (Int × Int) := (List.range ss.length).map fun x => (0, topO ss l x)
theorem psL_len (ss : List (Int × Int)) (l : List Nat) : (psL ss l).length = ss.length := by
  unfold psL
  rw [List.length_map, List.length_range]
theorem psL_at {ss : List (Int × Int)} {l : List Nat} {x : Nat} (h : x < ss.length) : (psL ss l)[x]? = some (0, topO ss l x) := by
  unfold psL
  rw [List.getElem?_map, List.getElem?_range h]
  rfl
theorem walk_rgk {m n : Nat} (h : m = n) : Walk (Itr 0 n) m (fun _ => True) (YFn fun i => .int (i : Nat)) := by
  subst h
  exact walk_rg
theorem ti_stb {f : Nat → List Int} : Stb fun x v H => TI H v (f x) := fun _ _ _ _ k h => h.up k.kp
/-! places_listed: slots 0=boxes 1=row 2=found 3=top 4=box -/
def sp_places_listed (K : PySem.W.Frag) : Sp := fun vs H Q _ => ∃ (v u : V) (ss : List (Int × Int)) (l : List Nat), vs = [v, u] ∧ BX K H v ss ∧ ss.length ≤ 40 ∧ TN H u l ∧ Ord ss.length l ∧ ∀ H' z, Same H H' → TP H' z (psL ss l) → Q z H'
theorem sc_places_listed : FnScope ["boxes", "row", "found", "top", "box"] ["boxes", "row"] (defScope (top 52)) := ⟨rfl, rfl, rfl, by decide +kernel, rfl, by decide +kernel, by decide +kernel⟩
theorem ok_places_listed {P : Program} {w : World} {K : PySem.W.Frag} {mg : Str → Option Value} {base : Heap} (T : Tx K mg) : Fn P w K mg base "places_listed" 1 ["boxes", "row"] (sp_places_listed K) := by
  refine mkFn (k := 0) T.t_places_listed sc_places_listed (fun vs H Q E h => ?_) (fun _ _ _ _ _ _ us hl => match us, hl with | [_, _], _ => rfl) (fun f cdv A outer s H vs Q E hr h => ?_)
  · obtain ⟨v, u, ss, l, rfl, hB, h40, ⟨la, rfl, hl⟩, ho, k⟩ := h <;> rfl
  · refine ⟨_, (pss_cons (ps_set (i := 2) sc_places_listed.nd rfl (by first | exact Or.inl rfl | exact Or.inr rfl) pe_dnewK)
        (pss_cons (ps_set (i := 3) sc_places_listed.nd rfl (by first | exact Or.inl rfl | exact Or.inr rfl) pe_int)
        (pss_cons (ps_for PassesOwn.never rfl (k_pt (K := K) rfl (pv 1)) (pg_name (i := 4) sc_places_listed.nd rfl (by first | exact Or.inl rfl | exact Or.inr rfl)) (pss_cons (ps_dput (hu_of hr) (pv 2) (pv 4) (pe_tup (pa_cons pe_int (pa_cons (pv 3) pa_nil))) rfl)
        (pss_one (ps_aug (i := 3) sc_places_listed.nd rfl (by first | exact Or.inl rfl | exact Or.inr rfl) (pe_ix (k_ixT (K := K) rfl) (pe_ix (k_ixT (K := K) rfl) (k_fld (K := K) rfl (pv 0) rfl) (pv 4) (fun _ _ => rfl)) pe_int (fun _ _ => rfl)) ip_add))))
        (pss_one (ps_ret (pe_callTy (k_tuple (K := K) rfl) rfl T.f_tuple b_tuple (pa_cons (pe_lc (own := [("box", 4)]) (g := (gName 4)) (tt := tYes) rfl sc_places_listed.nd (pi_range1 rfl T.f_range (pa_cons (k_fld (K := K) rfl (pv 0) rfl) pa_nil)) (blkOk_by (N := ["boxes", "row", "found", "top", "box"]) (sc := defScope (top 52)) (by decide +kernel)) (fun _ _ _ _ _ => (pg_name (i := 4) sc_places_listed.nd rfl (by first | exact Or.inl rfl | exact Or.inr rfl))) (fun _ _ _ _ _ => pts_nil) (fun _ _ _ _ _ => (pe_dget (hu_of hr) (pv 2) (pv 4) (fun _ _ => rfl)))) pa_nil))))))), ?_⟩
    obtain ⟨v, u, ss, l, rfl, hB, h40, ⟨la, rfl, hl⟩, ho, k⟩ := h
    obtain ⟨b, dx, _, rfl, hb, ta, tv, rfl, ht, hP⟩ := id hB
    refine fun d nd => ?_
    have s0 := sn (o := .dK []) nd
    have ll := ho.len
    refine ⟨_, rfl, la, rfl, ⟨_, SqT.of (s0 _ _ hl)⟩, for_it (walk_tup (xs := (NI l).map V.int)) (fun i σ H' => ∃ v4, σ = [some (.ref b), some (.ref la), some (.ref d), some (.int (psum (K20.ht ss) l i)), v4] ∧ Same H H' ∧ DD (fun x v H => TI H v [0, topO ss l x]) H' d (l.take i))
      ⟨none, rfl, s0, DD.nil upd_same⟩ (fun i σ H' _ p => ?_) (fun i x σ H1 H2 hi p y => ?_) (fun σ H1 p => ?_)⟩
    · obtain ⟨_, _, s1, _⟩ := p
      exact SqT.of (s1 _ _ hl)
    · obtain ⟨v4, rfl, s1, hd⟩ := p
      obtain ⟨rfl, hx⟩ := y
      obtain ⟨j, e1, rfl⟩ := NI_at hx
      have hj := ho.lt (List.mem_of_getElem? e1)
      have epos := pos_of ho.nd e1
      refine ⟨_, rfl, by show 2 ≤ sizeLine; decide, fun r nr => ?_⟩
      have sr := sn (o := .tup [.int 0, .int (psum (K20.ht ss) l i)]) nr
      have hj2 : j ∉ l.take i := fun m => by
        have := ((mem_take_pos ho.nd).mp m).2
        omega
      obtain ⟨H4, d1, d2, d3, d4⟩ := DD.put ti_stb (hd.up ti_stb sr) (v := .ref r) hj2 (by rw [List.length_take]; omega) ⟨r, rfl, by rw [upd_same]; unfold topO; rw [epos]; rfl⟩
      have s4 : Same H H4 := d4 H (s1.trans sr) nd
      refine ⟨_, rfl, _, rfl, d, H4, rfl, d1, ?_⟩
      obtain ⟨_, f3, c3, rfl, g3⟩ := prd_get hP (ss_at hj)
      refine ⟨_, rfl, _, rfl, b, _, dx, _, _, rfl, (s4 _ _ hb), T.clB, T.nS, bF_sizes _ _, _, rfl, ta, _, _, (.ref c3), rfl, rfl, SqT.of (s4 _ _ ht), atI_nat f3, c3, _, 1, _, rfl, rfl, SqT.of (s4 _ _ g3), atI_nat (j := 1) rfl, _, _, rfl, rfl, ?_⟩
      exact ⟨some (.int (j : Nat)), by rw [psum_snoc e1]; rfl, s4, by rw [take_snoc e1]; exact d2⟩
    · obtain ⟨v4, rfl, s1, hd⟩ := p
      have hd : DD (fun x v H => TI H v [0, topO ss l x]) H1 d (l.take ((NI l).map V.int).length) := hd
      rw [NI_vlen, List.take_length] at hd
      refine ⟨_, rfl, b, _, dx, _, _, rfl, (s1 _ _ hb), T.clB, T.nM, bF_many _ _, ss.length, rfl, by omega, by omega, lc_rel (psL ss l) (fun z y H => TI H y [z.1, z.2]) (fun _ _ _ _ k h => h.up k) (walk_rgk (psL_len ss l)) (by rw [psL_len]; omega) (fun _ _ => True.intro) (fun i z x H2 H3 hz s2 y Qt kk => ?_) (fun D ys H2 nD s2 hD hR => ?_)⟩
      · obtain ⟨rfl, rfl⟩ := y
        have hi := lt_at hz
        rw [psL_len] at hi
        cases Option.some.inj (hz.symm.trans (psL_at hi))
        obtain ⟨w, g1, g2⟩ := (hd.up ti_stb s2).get ho.nd (ho.mem hi)
        exact ⟨rfl, _, rfl, _, rfl, d, w, rfl, g1, kk _ _ (Same.refl _) g2⟩
      · refine ⟨D, ys, rfl, .inl ⟨SqL.of hD, fun r nr => ?_⟩⟩
        exact k _ _ ((s1.trans s2).trans (sn nr)) ⟨r, ys, rfl, upd_same, prd_imp hR fun _ _ h => h.up (kp (sn nr))⟩
/-! listed: slots 0=boxes 1=row -/
def sp_listed (K : PySem.W.Frag) : Sp := fun vs H Q _ => ∃ (v u : V) (ss : List (Int × Int)) (l : List Nat), vs = [v, u] ∧ BX K H v ss ∧ ss.length ≤ 40 ∧ TN H u l ∧ Ord ss.length l ∧ ∀ H' z, Same H H' → TP H' z (psL ss l) → Q z H'
theorem sc_listed : FnScope ["boxes", "row"] ["boxes", "row"] (defScope (top 53)) := ⟨rfl, rfl, rfl, by decide +kernel, rfl, by decide +kernel, by decide +kernel⟩
theorem ok_listed {P : Program} {w : World} {K : PySem.W.Frag} {mg : Str → Option Value} {base : Heap} (T : Tx K mg) : Fn P w K mg base "listed" 6 ["boxes", "row"] (sp_listed K) := by
  refine mkFn (k := 5) T.t_listed sc_listed (fun vs H Q E h => ?_) (fun _ _ _ _ _ _ us hl => match us, hl with | [_, _], _ => rfl) (fun f cdv A outer s H vs Q E hr h => ?_)
  · obtain ⟨v, u, ss, l, rfl, hB, h40, hl, ho, k⟩ := h <;> rfl
  · refine ⟨_, (pss_cons (ps_expr (cl (ok_check_list T) (hr.mono (by decide)) rfl (pa_cons (pv 0) (pa_cons (pv 1) pa_nil))))
        (pss_one (ps_ret (cl (ok_places_listed T) (hr.mono (by decide)) rfl (pa_cons (pv 0) (pa_cons (pv 1) pa_nil)))))), ?_⟩
    obtain ⟨v, u, ss, l, rfl, hB, h40, hl, ho, k⟩ := h
    refine ⟨_, rfl, _, rfl, v, u, ss, l, rfl, hB, h40, hl, ho, fun H1 s1 => ?_⟩
    exact ⟨_, rfl, _, rfl, v, u, ss, l, rfl, hB.up (kp s1), h40, hl.up (kp s1), ho, fun H2 z s2 hz => k H2 z (s1.trans s2) hz⟩
end K20

namespace K20
open PySem PySem.Spec PyProof.Rows L2
theorem nof {H H' : Hp} (s : Same H H') {p : Addr} (h : H' p = none) : H p = none := by
  cases e : H p with
  | none => rfl
  | some u =>
    rw [s _ _ e] at h
    cases h
theorem ixN_nat {n j : Nat} (h : j < n) : ixN n ((j : Nat) : Int) = some j := by
  unfold ixN
  rw [if_pos (by omega), if_pos (by omega)]
  rfl
theorem cut_lo {xs : List V} {i : Nat} (h : i ≤ xs.length) : cutV xs none (some (i : Nat)) = xs.take i := by
  unfold cutV
  rw [HT.sIx_none, HT.sIx_nat]
  have e : min i xs.length - 0 = i := by omega
  rw [e]
  rfl
theorem cut_lo_not {n i : Nat} (h : i < n) : ¬ (HT.sIx n 0 (none : Option Int) = 0 ∧ HT.sIx n n (some ((i : Nat) : Int)) = n) := fun z => by
  have := z.2
  rw [HT.sIx_nat] at this
  omega
theorem walk_listn {K : PySem.W.Frag} {a : Addr} {xs : List V} {n : Nat} (h : xs.length = n) : Walk (Itl K a) n (fun H => SqL K H a xs) (YAt xs) := by
  subst h
  exact walk_list
theorem walk_tupn {K : PySem.W.Frag} {a : Addr} {xs : List V} {n : Nat} (h : xs.length = n) : Walk (Itt K a) n (fun H => SqT K H a xs) (YAt xs) := by
  subst h
  exact walk_tup
theorem spots_eq {l : List Nat} {n : Nat} {xs : List V} (hl : xs.length = n) (h : ∀ x, x < n → xs[x]? = some (.int (pos l x : Nat))) : xs = (List.range n).map fun x => V.int (pos l x : Nat) := by
  refine List.ext_getElem? fun i => ?_
  by_cases c : i < n
  · rw [h i c, List.getElem?_map, List.getElem?_range c]
    rfl
  · rw [List.getElem?_eq_none (by omega), List.getElem?_eq_none (by rw [List.length_map, List.length_range]; omega)]
theorem rgm_at {f : Nat → V} {n x : Nat} (h : x < n) : ((List.range n).map f)[x]? = some (f x) := by
  rw [List.getElem?_map, List.getElem?_range h]
  rfl
/-! spots: slots 0=row 1=found 2=spot 3=thing -/
def sp_spots : Sp := fun vs H Q _ => ∃ (v : V) (n : Nat) (l : List Nat), vs = [v] ∧ TN H v l ∧ Ord n l ∧ n ≤ 40 ∧ ∀ H' a, Same H H' → H' a = some (.lst ((List.range n).map fun x => V.int (pos l x : Nat))) → Q (.ref a) H'
theorem sc_spots : FnScope ["row", "found", "spot", "thing"] ["row"] (defScope (top 54)) := ⟨rfl, rfl, rfl, by decide +kernel, rfl, by decide +kernel, by decide +kernel⟩
theorem ok_spots {P : Program} {w : World} {K : PySem.W.Frag} {mg : Str → Option Value} {base : Heap} (T : Tx K mg) : Fn P w K mg base "spots" 1 ["row"] (sp_spots) := by
  refine mkFn (k := 0) T.t_spots sc_spots (fun vs H Q E h => ?_) (fun _ _ _ _ _ _ us hl => match us, hl with | [_], _ => rfl) (fun f cdv A outer s H vs Q E hr h => ?_)
  · obtain ⟨v, n, l, rfl, ⟨la, rfl, hl⟩, ho, h40, k⟩ := h <;> rfl
  · refine ⟨_, (pss_cons (ps_set (i := 1) sc_spots.nd rfl (by first | exact Or.inl rfl | exact Or.inr rfl) (pe_op op_rep (pe_lst (pa_cons pe_int pa_nil)) (pe_callB (k_len (K := K) rfl) rfl T.f_len b_len (pa_cons (pv 0) pa_nil))))
        (pss_cons (ps_for PassesOwn.never rfl (k_enum (K := K) rfl rfl T.f_enumerate (pa_cons (pv 0) pa_nil)) (pg_tup rfl (pgs_cons (pg_name (i := 2) sc_spots.nd rfl (by first | exact Or.inl rfl | exact Or.inr rfl)) (pgs_cons (pg_name (i := 3) sc_spots.nd rfl (by first | exact Or.inl rfl | exact Or.inr rfl)) pgs_nil))) (pss_one (ps_asg (pv 2) (pg_sub (pv 1) (pv 3) set_list))))
        (pss_one (ps_ret (pv 1))))), ?_⟩
    obtain ⟨v, n, l, rfl, ⟨la, rfl, hl⟩, ho, h40, k⟩ := h
    have ll := ho.len
    refine ⟨by show 1 ≤ sizeLine; decide, fun a na => ?_⟩
    have s0 := sn (o := .lst [.int 0]) na
    refine ⟨_, rfl, la, _, rfl, .inr (SqT.of (s0 _ _ hl)), a, _, [.int 0], rfl, rfl, upd_same, by rw [NI_vlen]; omega, by rw [NI_vlen]; omega, ?_, fun p np => ?_⟩
    · have := sizeLine_eq
      show 1 * _ ≤ _
      rw [NI_vlen]
      omega
    have s1 := s0.trans (sn (o := .lst (List.replicate ((((NI l).map V.int).length : Nat) : Int).toNat [V.int 0]).flatten) np)
    have np0 := nof s0 np
    refine ⟨_, rfl, la, _, rfl, SqT.of (s1 _ _ hl), for_it (walk_enumT (xs := (NI l).map V.int)) (fun i σ H' => ∃ v2 v3, σ = [some (.ref la), some (.ref p), v2, v3] ∧ Same H H' ∧ ∃ xs, H' p = some (.lst xs) ∧ xs.length = n ∧ ∀ x, x < n → pos l x < i → xs[x]? = some (.int (pos l x : Nat)))
      ⟨none, none, rfl, s1, _, upd_same, ?_, fun x _ h => absurd h (Nat.not_lt_zero _)⟩ (fun i σ H' _ p => ?_) (fun i x σ H1 H2 hi p y => ?_) (fun σ H1 p => ?_)⟩
    · rw [NI_vlen, ll]
      simp
    · obtain ⟨_, _, _, s1, _⟩ := p
      exact SqT.of (s1 _ _ hl)
    · obtain ⟨v2, v3, rfl, s1, xs, hp, hx, hxs⟩ := p
      obtain ⟨U, x1, x2, rfl, nU, rfl, y1, y2⟩ := y
      cases Option.some.inj y1
      obtain ⟨j, e1, rfl⟩ := NI_at y2
      have hj := ho.lt (List.mem_of_getElem? e1)
      have epos := pos_of ho.nd e1
      have sU := sn (o := .tup [.int (i : Nat), .int (j : Nat)]) nU
      have hp2 := sU _ _ hp
      refine ⟨U, _, rfl, SqT.of upd_same, rfl, _, _, rfl, _, _, rfl, rfl, ?_⟩
      refine ⟨_, rfl, _, rfl, _, rfl, p, xs, (j : Nat), j, rfl, rfl, hp2, ixN_nat (by omega), ?_⟩
      refine ⟨_, _, rfl, same_mut (s1.trans sU) np0, xs.set j (.int (i : Nat)), upd_same, by rw [List.length_set]; exact hx, fun x hxn hxi => ?_⟩
      by_cases e : x = j
      · subst e
        rw [List.getElem?_set_self (by omega), epos]
      · rw [List.getElem?_set_ne (fun z => e z.symm)]
        have e3 : pos l x ≠ i := fun z => e (pos_inj (ho.mem hxn) (ho.mem hj) (by omega))
        exact hxs x hxn (by omega)
    · obtain ⟨v2, v3, rfl, s1, xs, hp, hx, hxs⟩ := p
      refine ⟨_, rfl, k H1 p s1 ?_⟩
      rw [hp, spots_eq hx fun x hxn => hxs x hxn (by rw [NI_vlen]; exact pos_lt (ho.mem hxn))]
theorem li_stb {f : Nat → List Nat} : Stb fun x v H => LI H v (f x) := fun _ _ _ _ q h => h.kq q
/-! turned_ahead: slots 0=one 1=other 2=there 3=found 4=at 5=thing 6=elder -/
def sp_turned_ahead : Sp := fun vs H Q _ => ∃ (v u : V) (n : Nat) (one other : List Nat), vs = [v, u] ∧ TN H v one ∧ TN H u other ∧ Ord n one ∧ Ord n other ∧ n ≤ 40 ∧ ∀ H' d, Same H H' → DD (fun x v H => LI H v (ah one other x)) H' d one → Q (.ref d) H'
theorem sc_turned_ahead : FnScope ["one", "other", "there", "found", "at", "thing", "elder"] ["one", "other"] (defScope (top 55)) := ⟨rfl, rfl, rfl, by decide +kernel, rfl, by decide +kernel, by decide +kernel⟩
theorem ok_turned_ahead {P : Program} {w : World} {K : PySem.W.Frag} {mg : Str → Option Value} {base : Heap} (T : Tx K mg) : Fn P w K mg base "turned_ahead" 2 ["one", "other"] (sp_turned_ahead) := by
  refine mkFn (k := 1) T.t_turned_ahead sc_turned_ahead (fun vs H Q E h => ?_) (fun _ _ _ _ _ _ us hl => match us, hl with | [_, _], _ => rfl) (fun f cdv A outer s H vs Q E hr h => ?_)
  · obtain ⟨v, u, n, one, other, rfl, ⟨la, rfl, hl⟩, ⟨ua, rfl, hu⟩, ho, ho2, h40, k⟩ := h <;> rfl
  · refine ⟨_, (pss_cons (ps_set (i := 2) sc_turned_ahead.nd rfl (by first | exact Or.inl rfl | exact Or.inr rfl) (cl (ok_spots T) (hr.mono (by decide)) rfl (pa_cons (pv 1) pa_nil)))
        (pss_cons (ps_set (i := 3) sc_turned_ahead.nd rfl (by first | exact Or.inl rfl | exact Or.inr rfl) pe_dnewK)
        (pss_cons (ps_for PassesOwn.never rfl (k_enum (K := K) rfl rfl T.f_enumerate (pa_cons (pv 0) pa_nil)) (pg_tup rfl (pgs_cons (pg_name (i := 4) sc_turned_ahead.nd rfl (by first | exact Or.inl rfl | exact Or.inr rfl)) (pgs_cons (pg_name (i := 5) sc_turned_ahead.nd rfl (by first | exact Or.inl rfl | exact Or.inr rfl)) pgs_nil))) (pss_one (ps_dput (hu_of hr) (pv 3) (pv 5) (pe_lc (own := [("elder", 6)]) (g := (gName 6)) rfl sc_turned_ahead.nd (k_pt (K := K) rfl (pe_slice (k_slT (K := K) rfl) (pv 0) po_none (po_some (pv 4)))) (blkOk_by (N := ["one", "other", "there", "found", "at", "thing", "elder"]) (sc := defScope (top 55)) (by decide +kernel)) (fun _ _ _ _ _ => (pg_name (i := 6) sc_turned_ahead.nd rfl (by first | exact Or.inl rfl | exact Or.inr rfl))) (fun _ _ _ _ _ => (pts_one (pt_cmpR op_gt (pe_ix (k_ixL (K := K) rfl) (pv 2) (pv 6) (fun _ _ => rfl)) (pe_ix (k_ixL (K := K) rfl) (pv 2) (pv 5) (fun _ _ => rfl)) (nomark _)))) (fun _ _ _ _ _ => (pv 6))) rfl)))
        (pss_one (ps_ret (pv 3)))))), ?_⟩
    obtain ⟨v, u, n, one, other, rfl, ⟨la, rfl, hl⟩, ⟨ua, rfl, hu⟩, ho, ho2, h40, k⟩ := h
    have ll := ho.len
    refine ⟨_, rfl, .ref ua, n, other, rfl, ⟨ua, rfl, hu⟩, ho2, h40, fun H1 sa s1 hsp => fun d nd => ?_⟩
    have sd := sn (o := .dK []) nd
    have s2 := s1.trans sd
    refine ⟨_, rfl, la, _, rfl, SqT.of (s2 _ _ hl), for_it (walk_enumT (xs := (NI one).map V.int)) (fun i σ H' => ∃ v4 v5, σ = [some (.ref la), some (.ref ua), some (.ref sa), some (.ref d), v4, v5, none] ∧ Same H1 H' ∧ DD (fun x v H => LI H v (ah one other x)) H' d (one.take i))
      ⟨none, none, rfl, sd, DD.nil upd_same⟩ (fun i σ H' _ p => ?_) (fun i x σ H2 H3 hi p y => ?_) (fun σ H2 p => ?_)⟩
    · obtain ⟨_, _, _, s3, _⟩ := p
      exact SqT.of (s3 _ _ (s1 _ _ hl))
    · obtain ⟨v4, v5, rfl, s3, hd⟩ := p
      obtain ⟨U, x1, x2, rfl, nU, rfl, y1, y2⟩ := y
      cases Option.some.inj y1
      obtain ⟨j, e1, rfl⟩ := NI_at y2
      have hj := ho.lt (List.mem_of_getElem? e1)
      have epos := pos_of ho.nd e1
      rw [NI_vlen] at hi
      have sU := sn (o := .tup [.int (i : Nat), .int (j : Nat)]) nU
      have s1U := s3.trans sU
      refine ⟨U, _, rfl, SqT.of upd_same, rfl, _, _, rfl, _, _, rfl, rfl, ?_⟩
      refine ⟨_, rfl, _, rfl, _, rfl, la, _, rfl, SqT.of (s1U _ _ (s1 _ _ hl)), cut_lo_not (by rw [NI_vlen]; exact hi), fun p np => ?_⟩
      have ec : cutV ((NI one).map V.int) none (some (i : Nat)) = (NI (one.take i)).map V.int := by
        rw [cut_lo (by rw [NI_vlen]; omega), ← List.map_take, NI_take]
      rw [ec]
      have sp := sn (o := .tup ((NI (one.take i)).map V.int)) np
      have s1p := s1U.trans sp
      refine ⟨p, rfl, ⟨_, SqT.of upd_same⟩, lc_filt (one.take i) (fun e => decide (pos other j < pos other e)) (fun e => .int (e : Nat)) (walk_tupn (NI_vlen _)) (by rw [List.length_take]; omega) (fun H' s => SqT.of (s _ _ upd_same)) (fun m z x H4 H5 hz s4 y Qt Qf k1 k2 => ?_) (fun F H4 nF s4 hF => ?_)⟩
      · obtain ⟨rfl, hx⟩ := y
        obtain ⟨z2, e2, rfl⟩ := NI_at hx
        cases Option.some.inj (hz.symm.trans e2)
        have hz1 := ho.lt (List.mem_of_mem_take (List.mem_of_getElem? hz))
        have hsp4 := s4 _ _ (s1p _ _ hsp)
        refine ⟨rfl, _, rfl, _, rfl, sa, _, (z : Nat), _, rfl, rfl, SqL.of hsp4, atI_nat (rgm_at hz1), _, rfl, _, rfl, sa, _, (j : Nat), _, rfl, rfl, SqL.of hsp4, atI_nat (rgm_at hj), _, _, rfl, rfl, ?_⟩
        by_cases c : pos other j < pos other z
        · exact ⟨_, rfl, if1 (decide_eq_true (by omega)) ⟨_, rfl, k1 _ (Same.refl _) (decide_eq_true c)⟩⟩
        · exact ⟨_, rfl, if0 (decide_eq_false (by omega)) (k2 _ (Same.refl _) (decide_eq_false c))⟩
      · have hj2 : j ∉ one.take i := fun m => by
          have := ((mem_take_pos ho.nd).mp m).2
          omega
        have s24 := (sU.trans sp).trans s4
        have e2 : ((one.take i).filter fun e => decide (pos other j < pos other e)).map (fun e => V.int (e : Nat)) = (NI (ah one other j)).map V.int := by
          unfold ah NI
          rw [epos, List.map_map]
          rfl
        rw [e2] at hF
        obtain ⟨H6, d1, d2, d3, d4⟩ := DD.put li_stb (hd.up li_stb s24) (v := .ref F) hj2 (by rw [List.length_take]; omega) ⟨F, rfl, hF⟩
        refine ⟨_, rfl, _, rfl, d, H6, rfl, d1, ?_⟩
        exact ⟨_, _, rfl, d4 H1 (s3.trans s24) nd, by rw [take_snoc e1]; exact d2⟩
    · obtain ⟨v4, v5, rfl, s3, hd⟩ := p
      have hd : DD (fun x v H => LI H v (ah one other x)) H2 d (one.take ((NI one).map V.int).length) := hd
      rw [NI_vlen, List.take_length] at hd
      exact ⟨_, rfl, k H2 d (s1.trans s3) hd⟩
/-- a pair of an int and a tuple of ints -/
def PV (H : Hp) (v : V) (m : Int) (lot : List Int) : Prop := ∃ t u : Addr, v = .ref t ∧ H t = some (.tup [.int m, .ref u]) ∧ H u = some (.tup (lot.map V.int))
theorem PV.up {H H' : Hp} {v : V} {m : Int} {lot : List Int} (h : PV H v m lot) (k : Kp H H') : PV H' v m lot := by
  obtain ⟨t, u, e, h1, h2⟩ := h
  exact ⟨t, u, e, k.tup h1, k.tup h2⟩
theorem PV.pt {K : PySem.W.Frag} {H : Hp} {v : V} {p : Int × List Int} (h : PV H v p.1 p.2) : PT2 K H v p := by
  obtain ⟨t, u, e, h1, h2⟩ := h
  exact ⟨t, u, e, SqT.of h1, SqT.of h2⟩
/-- the heaviest lot that ends with x -/
def HV (one other : List Nat) (W : Nat → Int) (x : Nat) (v : V) (H : Hp) : Prop := ∃ lot, PV H v (best one other W x) lot ∧ lot.length ≤ pos one x + 1
theorem HV.up {one other : List Nat} {W : Nat → Int} {x : Nat} {v : V} {H H' : Hp} (h : HV one other W x v H) (k : Kp H H') : HV one other W x v H' := by
  obtain ⟨lot, h, l⟩ := h
  exact ⟨lot, h.up k, l⟩
theorem hv_stb {one other : List Nat} {W : Nat → Int} : Stb (HV one other W) := fun _ _ _ _ q h => h.up q.kp
theorem hv_ps {one other : List Nat} {W : Nat → Int} {H : Hp} {B : Nat} : ∀ {ys : List V} {es : List Nat}, Paired (fun v e => HV one other W e v H) ys es → (∀ e ∈ es, pos one e + 1 ≤ B) →
    ∃ ps : List (Int × List Int), Paired (fun v (p : Int × List Int) => PV H v p.1 p.2) ys ps ∧ ps.map (·.1) = es.map (best one other W) ∧ ∀ p ∈ ps, p.2.length ≤ B
  | _, _, .nil, _ => ⟨[], .nil, rfl, fun p hp => by cases hp⟩
  | _ :: _, e :: _, .cons h t, hb => by
    obtain ⟨lot, h1, h2⟩ := h
    obtain ⟨ps, p1, p2, p3⟩ := hv_ps t fun e he => hb e (List.mem_cons_of_mem _ he)
    refine ⟨(best one other W e, lot) :: ps, .cons h1 p1, by rw [List.map_cons, List.map_cons, p2], fun p hp => ?_⟩
    rcases List.mem_cons.mp hp with e | hp
    · rw [e]
      exact Nat.le_trans h2 (hb _ List.mem_cons_self)
    · exact p3 p hp
theorem mx0_max {l : List Int} {m : Int} (h1 : m ∈ l) (h2 : ∀ y ∈ l, y ≤ m) (h0 : 0 ≤ m) : m = mx0 l :=
  mx0_of (List.mem_append_left _ h1) fun y hy => by
    rcases List.mem_append.mp hy with h | h
    · exact h2 y h
    · rw [List.mem_singleton.mp h]
      exact h0
theorem catA_one {K : PySem.W.Frag} {H : Hp} {a b : Addr} {xs : List V} {y : V} {Q : VK} (ha : H a = some (.tup xs)) (hb : H b = some (.tup [y])) (hz : xs.length + 1 ≤ sizeLine) (q : ∀ H' c, Same H H' → H' c = some (.tup (xs ++ [y])) → Q (.ref c) H') : rCatA K (.ref a) (.ref b) H Q :=
  ⟨a, b, xs, [y], rfl, rfl, SqT.of ha, SqT.of hb, hz, fun e => q _ _ (Same.refl _) (by rw [e]; exact hb), (fun _ e => by cases e), fun _ _ p np => q _ _ (sn np) upd_same⟩
theorem prd_len_ne {α β : Type} {F : α → β → Prop} {xs : List α} {ys : List β} (h : Paired F xs ys) (hy : 1 ≤ ys.length) : 1 ≤ xs.length := by
  rw [Paired.length h]
  exact hy
/-! heaviest: slots 0=one 1=other 2=weights 3=ahead 4=best 5=thing 6=most 7=lot 8=elder -/
def sp_heaviest : Sp := fun vs H Q _ => ∃ (v u : V) (wa : Addr) (n : Nat) (one other : List Nat) (W : Nat → Int), vs = [v, u, .ref wa] ∧ TN H v one ∧ TN H u other ∧ Ord n one ∧ Ord n other ∧ 1 ≤ n ∧ n ≤ 40 ∧ H wa = some (.lst ((List.range n).map fun x => V.int (W x))) ∧ (∀ x, x < n → 0 ≤ W x) ∧
  ∀ H' a b, Same H H' → H' a = some (.tup [.int (mx0 (one.map (best one other W))), b]) → Q (.ref a) H'
theorem sc_heaviest : FnScope ["one", "other", "weights", "ahead", "best", "thing", "most", "lot", "elder"] ["one", "other", "weights"] (defScope (top 56)) := ⟨rfl, rfl, rfl, by decide +kernel, rfl, by decide +kernel, by decide +kernel⟩
theorem ok_heaviest {P : Program} {w : World} {K : PySem.W.Frag} {mg : Str → Option Value} {base : Heap} (T : Tx K mg) : Fn P w K mg base "heaviest" 3 ["one", "other", "weights"] (sp_heaviest) := by
  refine mkFn (k := 2) T.t_heaviest sc_heaviest (fun vs H Q E h => ?_) (fun _ _ _ _ _ _ us hl => match us, hl with | [_, _, _], _ => rfl) (fun f cdv A outer s H vs Q E hr h => ?_)
  · obtain ⟨v, u, wa, n, one, other, W, rfl, ⟨la, rfl, hl⟩, hu, ho, ho2, h1, h40, hw, hW, k⟩ := h <;> rfl
  · refine ⟨_, (pss_cons (ps_set (i := 3) sc_heaviest.nd rfl (by first | exact Or.inl rfl | exact Or.inr rfl) (cl (ok_turned_ahead T) (hr.mono (by decide)) rfl (pa_cons (pv 0) (pa_cons (pv 1) pa_nil))))
        (pss_cons (ps_set (i := 4) sc_heaviest.nd rfl (by first | exact Or.inl rfl | exact Or.inr rfl) pe_dnewK)
        (pss_cons (ps_for PassesOwn.never rfl (k_pt (K := K) rfl (pv 0)) (pg_name (i := 5) sc_heaviest.nd rfl (by first | exact Or.inl rfl | exact Or.inr rfl)) (pss_cons (ps_asg (pe_callB (k_maxP (K := K) rfl rfl hr.units) rfl T.f_max b_max (pa_cons (pe_op op_cat (pe_lc (own := [("elder", 8)]) (g := (gName 8)) (tt := tYes) rfl sc_heaviest.nd (k_pl (K := K) rfl (pe_dget (hu_of hr) (pv 3) (pv 5) (fun _ _ => rfl))) (blkOk_by (N := ["one", "other", "weights", "ahead", "best", "thing", "most", "lot", "elder"]) (sc := defScope (top 56)) (by decide +kernel)) (fun _ _ _ _ _ => (pg_name (i := 8) sc_heaviest.nd rfl (by first | exact Or.inl rfl | exact Or.inr rfl))) (fun _ _ _ _ _ => pts_nil) (fun _ _ _ _ _ => (pe_dget (hu_of hr) (pv 4) (pv 8) (fun _ _ => rfl)))) (pe_lst (pa_cons (pe_tup (pa_cons pe_int (pa_cons (pe_tup pa_nil) pa_nil))) pa_nil))) pa_nil)) (pg_tup rfl (pgs_cons (pg_name (i := 6) sc_heaviest.nd rfl (by first | exact Or.inl rfl | exact Or.inr rfl)) (pgs_cons (pg_name (i := 7) sc_heaviest.nd rfl (by first | exact Or.inl rfl | exact Or.inr rfl)) pgs_nil))))
        (pss_one (ps_dput (hu_of hr) (pv 4) (pv 5) (pe_tup (pa_cons (pe_op op_add (pv 6) (pe_ix (k_ixL (K := K) rfl) (pv 2) (pv 5) (fun _ _ => rfl))) (pa_cons (pe_op (k_cat (K := K) rfl) (pv 7) (pe_tup (pa_cons (pv 5) pa_nil))) pa_nil))) rfl))))
        (pss_cons (ps_asg (pe_callB (k_maxP (K := K) rfl rfl hr.units) rfl T.f_max b_max (pa_cons (pe_listVals rfl (pv 4) rfl T.f_list) pa_nil)) (pg_tup rfl (pgs_cons (pg_name (i := 6) sc_heaviest.nd rfl (by first | exact Or.inl rfl | exact Or.inr rfl)) (pgs_cons (pg_name (i := 7) sc_heaviest.nd rfl (by first | exact Or.inl rfl | exact Or.inr rfl)) pgs_nil))))
        (pss_one (ps_ret (pe_tup (pa_cons (pv 6) (pa_cons (pe_callTy (k_tuple (K := K) rfl) rfl T.f_tuple b_tuple (pa_cons (pe_callB (k_sort (K := K) rfl) rfl T.f_sorted b_sorted (pa_cons (pv 7) pa_nil)) pa_nil)) pa_nil))))))))), ?_⟩
    obtain ⟨v, u, wa, n, one, other, W, rfl, ⟨la, rfl, hl⟩, hu, ho, ho2, h1, h40, hw, hW, k⟩ := h
    have ll := ho.len
    have bnn : ∀ x, x < n → 0 ≤ best one other W x := fun x hx => by
      have := hW x hx
      have := mx0_nn ((ah one other x).map (best one other W))
      rw [best_eq ho.nd]
      omega
    refine ⟨_, rfl, _, rfl, .ref la, u, n, one, other, rfl, ⟨la, rfl, hl⟩, hu, ho, ho2, h40, fun H1 da s1 hda => fun d nd => ?_⟩
    have sd := sn (o := .dK []) nd
    have s2 := s1.trans sd
    refine ⟨_, rfl, la, rfl, ⟨_, SqT.of (s2 _ _ hl)⟩, for_it (walk_tup (xs := (NI one).map V.int)) (fun i σ H' => ∃ v5 v6 v7, σ = [some (.ref la), some u, some (.ref wa), some (.ref da), some (.ref d), v5, v6, v7, none] ∧ Same H1 H' ∧ DD (HV one other W) H' d (one.take i))
      ⟨none, none, none, rfl, sd, DD.nil upd_same⟩ (fun i σ H' _ p => ?_) (fun i x σ H2 H3 hi p y => ?_) (fun σ H2 p => ?_)⟩
    · obtain ⟨_, _, _, _, s3, _⟩ := p
      exact SqT.of (s3 _ _ (s1 _ _ hl))
    · obtain ⟨v5, v6, v7, rfl, s3, hd⟩ := p
      obtain ⟨rfl, hx⟩ := y
      obtain ⟨j, e1, rfl⟩ := NI_at hx
      have hj := ho.lt (List.mem_of_getElem? e1)
      have epos := pos_of ho.nd e1
      rw [NI_vlen] at hi
      obtain ⟨_, g1, ea, rfl, ge⟩ := (hda.up li_stb s3).get ho.nd (ho.mem hj)
      have hea : ∀ z ∈ ah one other j, z ∈ one ∧ pos one z < i := fun z hz => by
        have := (mem_ah ho.nd).mp hz
        exact ⟨this.1, by rw [← epos]; exact this.2.1⟩
      refine ⟨_, rfl, _, rfl, da, .ref ea, rfl, g1, ea, rfl, ⟨_, SqL.of ge⟩, lc_rel (ah one other j) (HV one other W) (fun _ _ _ _ k h => h.up k) (walk_listn (NI_vlen _)) ?_ (fun H' s => SqL.of (s _ _ ge)) (fun m z x H4 H5 hz s4 y Qt kk => ?_) (fun F ys H4 nF s4 hF hR => ?_)⟩
      · unfold ah
        refine Nat.le_trans (List.length_filter_le _ _) ?_
        rw [List.length_take]
        omega
      · obtain ⟨rfl, hx⟩ := y
        obtain ⟨z2, e2, rfl⟩ := NI_at hx
        cases Option.some.inj (hz.symm.trans e2)
        have hz1 := hea z (List.mem_of_getElem? hz)
        obtain ⟨w2, g2, hv2⟩ := (hd.up hv_stb s4).get (List.Pairwise.sublist (List.take_sublist _ _) ho.nd) ((mem_take_pos ho.nd).mpr hz1)
        exact ⟨rfl, _, rfl, _, rfl, d, w2, rfl, g2, kk _ _ (Same.refl _) hv2⟩
      · refine ⟨Nat.zero_le _, fun c1 n1 => ⟨by show 2 ≤ sizeLine; decide, fun c2 n2 => ⟨by show 1 ≤ sizeLine; decide, fun c3 n3 => ?_⟩⟩⟩
        have t1 := sn (o := .tup []) n1
        have t2 := sn (o := .tup [.int 0, .ref c1]) n2
        have t3 := sn (o := .lst [.ref c2]) n3
        have t13 := (t1.trans t2).trans t3
        have ly := Paired.length hR
        have la40 : (ah one other j).length ≤ 40 := by
          unfold ah
          refine Nat.le_trans (List.length_filter_le _ _) ?_
          rw [List.length_take]
          omega
        refine ⟨F, c3, ys, [.ref c2], rfl, rfl, t13 _ _ hF, upd_same, ?_, fun p np => ?_⟩
        · have := sizeLine_eq
          show _ + 1 ≤ _
          omega
        have t4 := sn (o := .lst (ys ++ [.ref c2])) np
        have t14 := t13.trans t4
        obtain ⟨ps, p1, p2, p3⟩ := hv_ps (B := i) (prd_imp hR fun _ _ h => h.up (kp t14)) fun e he => (hea e he).2
        have pw : Paired (fun v (p : Int × List Int) => PV _ v p.1 p.2) (ys ++ [.ref c2]) (ps ++ [(0, [])]) := p1.snoc ⟨c2, c1, rfl, t4 _ _ (t3 _ _ upd_same), t4 _ _ (t3 _ _ (t2 _ _ upd_same))⟩
        refine ⟨p, ys ++ [.ref c2], ps ++ [(0, [])], rfl, SqL.of upd_same, prd_imp pw fun _ _ h => h.pt, by simp, fun m x q hx hq hmax => ?_⟩
        obtain ⟨x2, hx2, t, lu, rfl, ht, hlu⟩ := prd_get pw hq
        cases Option.some.inj (hx.symm.trans hx2)
        have em : (ps ++ [((0 : Int), ([] : List Int))]).map (·.1) = (ah one other j).map (best one other W) ++ [0] := by
          rw [List.map_append, p2]
          rfl
        have eq1 : q.1 = mx0 ((ah one other j).map (best one other W)) := by
          refine mx0_of (by rw [← em]; exact List.mem_map_of_mem (List.mem_of_getElem? hq)) fun y hy => ?_
          rw [← em] at hy
          obtain ⟨r, hr, rfl⟩ := List.mem_map.mp hy
          exact hmax r hr
        have lq : q.2.length ≤ i := by
          rcases List.mem_append.mp (List.mem_of_getElem? hq) with h | h
          · exact p3 q h
          · rw [List.mem_singleton.mp h]
            exact Nat.zero_le _
        have s34 := s4.trans t14
        refine ⟨t, _, rfl, SqT.of ht, rfl, _, _, rfl, _, _, rfl, rfl, ?_⟩
        refine ⟨_, rfl, _, rfl, _, rfl, wa, _, (j : Nat), _, rfl, rfl, SqL.of (s34 _ _ (s3 _ _ (s1 _ _ hw))), atI_nat (rgm_at hj), _, _, rfl, rfl, ?_⟩
        refine ⟨_, rfl, _, rfl, by show 1 ≤ sizeLine; decide, fun c5 n5 => ?_⟩
        have t5 := sn (o := .tup [.int (j : Nat)]) n5
        refine catA_one (t5 _ _ hlu) upd_same (by rw [List.length_map]; have := sizeLine_eq; omega) fun H6 c6 s6 h6 => ⟨by show 2 ≤ sizeLine; decide, fun r nr => ?_⟩
        have tr := sn (o := .tup [.int (q.1 + W j), .ref c6]) nr
        have sAll := ((s34.trans t5).trans s6).trans tr
        have hj2 : j ∉ one.take i := fun m => by
          have := ((mem_take_pos ho.nd).mp m).2
          omega
        obtain ⟨H7, d1, d2, d3, d4⟩ := DD.put hv_stb (hd.up hv_stb sAll) (v := .ref r) hj2 (by rw [List.length_take]; omega) ⟨q.2 ++ [(j : Int)], ⟨r, c6, rfl, by rw [upd_same, best_eq ho.nd, eq1, Int.add_comm], by rw [tr _ _ h6, List.map_append]; rfl⟩, by rw [List.length_append, List.length_singleton, epos]; omega⟩
        refine ⟨_, rfl, _, rfl, d, H7, rfl, d1, ?_⟩
        exact ⟨_, _, _, rfl, d4 H1 (s3.trans sAll) nd, by rw [take_snoc e1]; exact d2⟩
    · obtain ⟨v5, v6, v7, rfl, s3, hd⟩ := p
      have hd : DD (HV one other W) H2 d (one.take ((NI one).map V.int).length) := hd
      rw [NI_vlen, List.take_length] at hd
      obtain ⟨kvs, hk, hp⟩ := hd
      have hv := prd_vals (F := fun x v => HV one other W x v H2) hp
      obtain ⟨ps, p1, p2, p3⟩ := hv_ps (B := n) hv fun e he => by
        have := pos_lt he
        omega
      refine ⟨_, rfl, d, kvs, rfl, hk, fun F nF => ?_⟩
      have sF := sn (o := .lst (kvs.map (·.2))) nF
      have hne : ps ≠ [] := fun e => by
        rw [e] at p2
        have := congrArg List.length p2
        rw [List.length_map] at this
        simp at this
        omega
      refine ⟨F, _, ps, rfl, SqL.of upd_same, prd_imp p1 fun _ _ h => (h.up (kp sF)).pt, hne, fun m x q hx hq hmax => ?_⟩
      obtain ⟨x2, hx2, hpv⟩ := prd_get p1 hq
      cases Option.some.inj (hx.symm.trans hx2)
      obtain ⟨t, lu, rfl, ht, hlu⟩ := hpv.up (kp sF)
      have eq1 : q.1 = mx0 (one.map (best one other W)) := by
        have m1 : q.1 ∈ one.map (best one other W) := by rw [← p2]; exact List.mem_map_of_mem (List.mem_of_getElem? hq)
        refine mx0_max m1 (fun y hy => ?_) ?_
        · rw [← p2] at hy
          obtain ⟨r, hr, rfl⟩ := List.mem_map.mp hy
          exact hmax r hr
        · obtain ⟨x, hx, e⟩ := List.mem_map.mp m1
          rw [← e]
          exact bnn x (ho.lt hx)
      refine ⟨t, _, rfl, SqT.of ht, rfl, _, _, rfl, _, _, rfl, rfl, ?_⟩
      refine ⟨_, rfl, _, rfl, lu, q.2, rfl, SqT.of hlu, by have := p3 q (List.mem_of_getElem? hq); omega, fun ns p _ _ np => ?_⟩
      have u1 := sn (o := .lst (ns.map V.int)) np
      refine ⟨p, _, rfl, .inl ⟨SqL.of upd_same, fun p2 np2 => ?_⟩⟩
      have u2 := sn (o := .tup (ns.map V.int)) np2
      refine ⟨by show 2 ≤ sizeLine; decide, fun r nr => ?_⟩
      refine k _ r (.ref p2) ((((s1.trans s3).trans sF).trans (u1.trans u2)).trans (sn nr)) ?_
      rw [upd_same, eq1]
/-! widths: slots 0=boxes 1=size -/
def sp_widths (K : PySem.W.Frag) : Sp := fun vs H Q _ => ∃ (v : V) (ss : List (Int × Int)), vs = [v] ∧ BX K H v ss ∧ ss.length ≤ 40 ∧ ∀ H' a, Same H H' → H' a = some (.lst ((List.range ss.length).map fun x => V.int (wd ss x))) → Q (.ref a) H'
theorem sc_widths : FnScope ["boxes", "size"] ["boxes"] (defScope (top 57)) := ⟨rfl, rfl, rfl, by decide +kernel, rfl, by decide +kernel, by decide +kernel⟩
theorem ok_widths {P : Program} {w : World} {K : PySem.W.Frag} {mg : Str → Option Value} {base : Heap} (T : Tx K mg) : Fn P w K mg base "widths" 1 ["boxes"] (sp_widths K) := by
  refine mkFn (k := 0) T.t_widths sc_widths (fun vs H Q E h => ?_) (fun _ _ _ _ _ _ us hl => match us, hl with | [_], _ => rfl) (fun f cdv A outer s H vs Q E hr h => ?_)
  · obtain ⟨v, ss, rfl, ⟨b, dx, _, rfl, hb, ta, tv, rfl, ht, hP⟩, h40, k⟩ := h <;> rfl
  · refine ⟨_, (pss_one (ps_ret (pe_lc (own := [("size", 1)]) (g := (gName 1)) (tt := tYes) rfl sc_widths.nd (k_pt (K := K) rfl (k_fld (K := K) rfl (pv 0) rfl)) (blkOk_by (N := ["boxes", "size"]) (sc := defScope (top 57)) (by decide +kernel)) (fun _ _ _ _ _ => (pg_name (i := 1) sc_widths.nd rfl (by first | exact Or.inl rfl | exact Or.inr rfl))) (fun _ _ _ _ _ => pts_nil) (fun _ _ _ _ _ => (pe_ix (k_ixT (K := K) rfl) (pv 1) pe_int (fun _ _ => rfl)))))), ?_⟩
    obtain ⟨v, ss, rfl, ⟨b, dx, _, rfl, hb, ta, tv, rfl, ht, hP⟩, h40, k⟩ := h
    have lw := Paired.length hP
    refine ⟨_, rfl, b, _, dx, _, _, rfl, hb, T.clB, T.nS, bF_sizes _ _, ta, rfl, ⟨_, SqT.of ht⟩, lc_map ss (fun s => .int s.1) (walk_tupn lw) (by omega) (fun H' s => SqT.of (s _ _ ht)) (fun i z x H1 H2 hz s1 y Qt kk => ?_) (fun D H1 nD s1 hD => ?_)⟩
    · obtain ⟨rfl, hx⟩ := y
      obtain ⟨x', g1, c, rfl, hc⟩ := prd_get hP hz
      cases Option.some.inj (g1.symm.trans hx)
      exact ⟨rfl, _, rfl, c, _, 0, _, rfl, rfl, SqT.of (s1 _ _ hc), atI_nat (j := 0) rfl, kk _ (Same.refl _)⟩
    · refine k H1 D s1 ?_
      have e : ss.map (fun s => V.int s.1) = ((List.range ss.length).map (wd ss)).map V.int := by
        rw [← ss_map, List.map_map]
        rfl
      rw [hD, e, List.map_map]
      rfl
/-! may_pass: slots 0=boxes 1=width 2=one 3=other -/
def sp_may_pass (K : PySem.W.Frag) : Sp := fun vs H Q _ => ∃ (v u w : V) (ss : List (Int × Int)) (width : Int) (one other : List Nat), vs = [v, .int width, u, w] ∧ BX K H v ss ∧ Wf ss ∧ TN H u one ∧ TN H w other ∧ Ord ss.length one ∧ Ord ss.length other ∧ ∀ H', Same H H' → Q (.bl (fine one other (wd ss) width)) H'
theorem sc_may_pass : FnScope ["boxes", "width", "one", "other"] ["boxes", "width", "one", "other"] (defScope (top 58)) := ⟨rfl, rfl, rfl, by decide +kernel, rfl, by decide +kernel, by decide +kernel⟩
theorem ok_may_pass {P : Program} {w : World} {K : PySem.W.Frag} {mg : Str → Option Value} {base : Heap} (T : Tx K mg) : Fn P w K mg base "may_pass" 4 ["boxes", "width", "one", "other"] (sp_may_pass K) := by
  refine mkFn (k := 3) T.t_may_pass sc_may_pass (fun vs H Q E h => ?_) (fun _ _ _ _ _ _ us hl => match us, hl with | [_, _, _, _], _ => rfl) (fun f cdv A outer s H vs Q E hr h => ?_)
  · obtain ⟨v, u, w, ss, width, one, other, rfl, hB, wf, hu, hw, ho, ho2, k⟩ := h <;> rfl
  · refine ⟨_, (pss_one (ps_ret (pe_cmpR op_le (pe_ix (k_ixT (K := K) rfl) (cl (ok_heaviest T) (hr.mono (by decide)) rfl (pa_cons (pv 2) (pa_cons (pv 3) (pa_cons (cl (ok_widths T) (hr.mono (by decide)) rfl (pa_cons (pv 0) pa_nil)) pa_nil)))) pe_int (fun _ _ => rfl)) (pv 1) (nomark _)))), ?_⟩
    obtain ⟨v, u, w, ss, width, one, other, rfl, hB, wf, hu, hw, ho, ho2, k⟩ := h
    refine ⟨_, rfl, _, rfl, _, rfl, v, ss, rfl, hB, wf.le, fun H1 wa s1 hwa => ?_⟩
    refine ⟨u, w, wa, ss.length, one, other, wd ss, rfl, hu.up (kp s1), hw.up (kp s1), ho, ho2, wf.pos, wf.le, hwa, fun x hx => by have := (wf.w1 x hx).1; omega, fun H2 a b s2 ha => ?_⟩
    exact ⟨a, _, 0, _, rfl, rfl, SqT.of ha, atI_nat (j := 0) rfl, _, rfl, _, _, rfl, rfl, k H2 (s1.trans s2)⟩
/-! can_pass: slots 0=boxes 1=width 2=one 3=other -/
def sp_can_pass (K : PySem.W.Frag) : Sp := fun vs H Q _ => ∃ (v u w : V) (ss : List (Int × Int)) (width : Int) (one other : List Nat), vs = [v, .int width, u, w] ∧ BX K H v ss ∧ Wf ss ∧ (∀ x, x < ss.length → wd ss x ≤ width) ∧ width ≤ 1000000 ∧ TN H u one ∧ TN H w other ∧ Ord ss.length one ∧ Ord ss.length other ∧ ∀ H', Same H H' → Q (.bl (fine one other (wd ss) width)) H'
theorem sc_can_pass : FnScope ["boxes", "width", "one", "other"] ["boxes", "width", "one", "other"] (defScope (top 59)) := ⟨rfl, rfl, rfl, by decide +kernel, rfl, by decide +kernel, by decide +kernel⟩
theorem ok_can_pass {P : Program} {w : World} {K : PySem.W.Frag} {mg : Str → Option Value} {base : Heap} (T : Tx K mg) : Fn P w K mg base "can_pass" 7 ["boxes", "width", "one", "other"] (sp_can_pass K) := by
  refine mkFn (k := 6) T.t_can_pass sc_can_pass (fun vs H Q E h => ?_) (fun _ _ _ _ _ _ us hl => match us, hl with | [_, _, _, _], _ => rfl) (fun f cdv A outer s H vs Q E hr h => ?_)
  · obtain ⟨v, u, w, ss, width, one, other, rfl, hB, wf, hw1, hw2, hu, hw, ho, ho2, k⟩ := h <;> rfl
  · refine ⟨_, (pss_cons (ps_expr (cl (ok_check_width T) (hr.mono (by decide)) rfl (pa_cons (pv 0) (pa_cons (pv 1) pa_nil))))
        (pss_cons (ps_expr (cl (ok_check_lists T) (hr.mono (by decide)) rfl (pa_cons (pv 0) (pa_cons (pv 2) (pa_cons (pv 3) pa_nil)))))
        (pss_one (ps_ret (cl (ok_may_pass T) (hr.mono (by decide)) rfl (pa_cons (pv 0) (pa_cons (pv 1) (pa_cons (pv 2) (pa_cons (pv 3) pa_nil))))))))), ?_⟩
    obtain ⟨v, u, w, ss, width, one, other, rfl, hB, wf, hw1, hw2, hu, hw, ho, ho2, k⟩ := h
    refine ⟨_, rfl, _, rfl, v, ss, width, rfl, hB, wf, hw1, hw2, fun H1 s1 => ?_⟩
    refine ⟨_, rfl, _, rfl, _, rfl, v, u, w, ss, one, other, rfl, hB.up (kp s1), wf.le, hu.up (kp s1), ho, hw.up (kp s1), ho2, fun H2 s2 => ?_⟩
    have s12 := s1.trans s2
    exact ⟨_, rfl, _, rfl, _, rfl, _, rfl, v, u, w, ss, width, one, other, rfl, hB.up (kp s12), wf, hu.up (kp s12), hw.up (kp s12), ho, ho2, fun H3 s3 => k H3 (s12.trans s3)⟩
end K20

namespace K20
open PySem PySem.Spec PyProof.Rows L2
/-- the left edges, as a list -/
def lefL (n : Nat) (one other : List Nat) (W : Nat → Int) : List Int := (List.range n).map (lef one other W)
theorem lefL_at {n x : Nat} {one other : List Nat} {W : Nat → Int} (h : x < n) : (lefL n one other W)[x]? = some (lef one other W x) := by
  unfold lefL
  rw [List.getElem?_map, List.getElem?_range h]
  rfl
theorem lefL_len {n : Nat} {one other : List Nat} {W : Nat → Int} : (lefL n one other W).length = n := by
  unfold lefL
  rw [List.length_map, List.length_range]
theorem int_stb {f : Nat → Int} : Stb fun x v _ => v = .int (f x) := fun _ _ _ _ _ h => h
/-! lefts_for: slots 0=boxes 1=one 2=other 3=ahead 4=found 5=thing 6=elder -/
def sp_lefts_for (K : PySem.W.Frag) : Sp := fun vs H Q _ => ∃ (v u w : V) (ss : List (Int × Int)) (one other : List Nat), vs = [v, u, w] ∧ BX K H v ss ∧ ss.length ≤ 40 ∧ TN H u one ∧ TN H w other ∧ Ord ss.length one ∧ Ord ss.length other ∧ ∀ H' z, Same H H' → TI H' z (lefL ss.length one other (wd ss)) → Q z H'
theorem sc_lefts_for : FnScope ["boxes", "one", "other", "ahead", "found", "thing", "elder"] ["boxes", "one", "other"] (defScope (top 60)) := ⟨rfl, rfl, rfl, by decide +kernel, rfl, by decide +kernel, by decide +kernel⟩
theorem ok_lefts_for {P : Program} {w : World} {K : PySem.W.Frag} {mg : Str → Option Value} {base : Heap} (T : Tx K mg) : Fn P w K mg base "lefts_for" 3 ["boxes", "one", "other"] (sp_lefts_for K) := by
  refine mkFn (k := 2) T.t_lefts_for sc_lefts_for (fun vs H Q E h => ?_) (fun _ _ _ _ _ _ us hl => match us, hl with | [_, _, _], _ => rfl) (fun f cdv A outer s H vs Q E hr h => ?_)
  · obtain ⟨v, u, w, ss, one, other, rfl, ⟨b, dx, _, rfl, hb, ta, tv, rfl, ht, hP⟩, h40, ⟨la, rfl, hl⟩, hw, ho, ho2, k⟩ := h <;> rfl
  · refine ⟨_, (pss_cons (ps_set (i := 3) sc_lefts_for.nd rfl (by first | exact Or.inl rfl | exact Or.inr rfl) (cl (ok_turned_ahead T) (hr.mono (by decide)) rfl (pa_cons (pv 1) (pa_cons (pv 2) pa_nil))))
        (pss_cons (ps_set (i := 4) sc_lefts_for.nd rfl (by first | exact Or.inl rfl | exact Or.inr rfl) pe_dnewK)
        (pss_cons (ps_for PassesOwn.never rfl (k_pt (K := K) rfl (pv 1)) (pg_name (i := 5) sc_lefts_for.nd rfl (by first | exact Or.inl rfl | exact Or.inr rfl)) (pss_one (ps_dput (hu_of hr) (pv 4) (pv 5) (pe_callB (k_max (K := K) rfl rfl) rfl T.f_max b_max (pa_cons (pe_op op_cat (pe_lc (own := [("elder", 6)]) (g := (gName 6)) (tt := tYes) rfl sc_lefts_for.nd (k_pl (K := K) rfl (pe_dget (hu_of hr) (pv 3) (pv 5) (fun _ _ => rfl))) (blkOk_by (N := ["boxes", "one", "other", "ahead", "found", "thing", "elder"]) (sc := defScope (top 60)) (by decide +kernel)) (fun _ _ _ _ _ => (pg_name (i := 6) sc_lefts_for.nd rfl (by first | exact Or.inl rfl | exact Or.inr rfl))) (fun _ _ _ _ _ => pts_nil) (fun _ _ _ _ _ => (pe_op op_add (pe_dget (hu_of hr) (pv 4) (pv 6) (fun _ _ => rfl)) (pe_ix (k_ixT (K := K) rfl) (pe_ix (k_ixT (K := K) rfl) (k_fld (K := K) rfl (pv 0) rfl) (pv 6) (fun _ _ => rfl)) pe_int (fun _ _ => rfl))))) (pe_lst (pa_cons pe_int pa_nil))) pa_nil)) rfl)))
        (pss_one (ps_ret (pe_callTy (k_tuple (K := K) rfl) rfl T.f_tuple b_tuple (pa_cons (pe_lc (own := [("thing", 5)]) (g := (gName 5)) (tt := tYes) rfl sc_lefts_for.nd (pi_range1 rfl T.f_range (pa_cons (k_fld (K := K) rfl (pv 0) rfl) pa_nil)) (blkOk_by (N := ["boxes", "one", "other", "ahead", "found", "thing", "elder"]) (sc := defScope (top 60)) (by decide +kernel)) (fun _ _ _ _ _ => (pg_name (i := 5) sc_lefts_for.nd rfl (by first | exact Or.inl rfl | exact Or.inr rfl))) (fun _ _ _ _ _ => pts_nil) (fun _ _ _ _ _ => (pe_dget (hu_of hr) (pv 4) (pv 5) (fun _ _ => rfl)))) pa_nil))))))), ?_⟩
    obtain ⟨v, u, w, ss, one, other, rfl, ⟨b, dx, _, rfl, hb, ta, tv, rfl, ht, hP⟩, h40, ⟨la, rfl, hl⟩, hw, ho, ho2, k⟩ := h
    have ll := ho.len
    refine ⟨_, rfl, _, rfl, .ref la, w, ss.length, one, other, rfl, ⟨la, rfl, hl⟩, hw, ho, ho2, h40, fun H1 da s1 hda => fun d nd => ?_⟩
    have sd := sn (o := .dK []) nd
    have s2 := s1.trans sd
    refine ⟨_, rfl, la, rfl, ⟨_, SqT.of (s2 _ _ hl)⟩, for_it (walk_tup (xs := (NI one).map V.int)) (fun i σ H' => ∃ v5, σ = [some (.ref b), some (.ref la), some w, some (.ref da), some (.ref d), v5, none] ∧ Same H1 H' ∧ DD (fun x v _ => v = .int (lef one other (wd ss) x)) H' d (one.take i))
      ⟨none, rfl, sd, DD.nil upd_same⟩ (fun i σ H' _ p => ?_) (fun i x σ H2 H3 hi p y => ?_) (fun σ H2 p => ?_)⟩
    · obtain ⟨_, _, s3, _⟩ := p
      exact SqT.of (s3 _ _ (s1 _ _ hl))
    · obtain ⟨v5, rfl, s3, hd⟩ := p
      obtain ⟨rfl, hx⟩ := y
      obtain ⟨j, e1, rfl⟩ := NI_at hx
      have hj := ho.lt (List.mem_of_getElem? e1)
      have epos := pos_of ho.nd e1
      rw [NI_vlen] at hi
      obtain ⟨_, g1, ea, rfl, ge⟩ := (hda.up li_stb s3).get ho.nd (ho.mem hj)
      have hea : ∀ z ∈ ah one other j, z ∈ one ∧ pos one z < i := fun z hz => by
        have := (mem_ah ho.nd).mp hz
        exact ⟨this.1, by rw [← epos]; exact this.2.1⟩
      have la40 : (ah one other j).length ≤ 40 := by
        unfold ah
        refine Nat.le_trans (List.length_filter_le _ _) ?_
        rw [List.length_take]
        omega
      refine ⟨_, rfl, _, rfl, da, .ref ea, rfl, g1, ea, rfl, ⟨_, SqL.of ge⟩, lc_map (ah one other j) (fun e => .int (best one other (wd ss) e)) (walk_listn (NI_vlen _)) (by omega) (fun H' s => SqL.of (s _ _ ge)) (fun m z x H4 H5 hz s4 y Qt kk => ?_) (fun F H4 nF s4 hF => ?_)⟩
      · obtain ⟨rfl, hx⟩ := y
        obtain ⟨z2, e2, rfl⟩ := NI_at hx
        cases Option.some.inj (hz.symm.trans e2)
        have hz1 := hea z (List.mem_of_getElem? hz)
        obtain ⟨_, g2, rfl⟩ := (hd.up int_stb s4).get (List.Pairwise.sublist (List.take_sublist _ _) ho.nd) ((mem_take_pos ho.nd).mpr hz1)
        obtain ⟨_, f3, c3, rfl, g3⟩ := prd_get hP (ss_at (ho.lt hz1.1))
        have s14 := (s1.trans s3).trans s4
        refine ⟨rfl, _, rfl, _, rfl, d, _, rfl, g2, _, rfl, b, _, dx, _, _, rfl, (s14 _ _ hb), T.clB, T.nS, bF_sizes _ _, _, rfl, ta, _, _, (.ref c3), rfl, rfl, SqT.of (s14 _ _ ht), atI_nat f3, c3, _, 0, _, rfl, rfl, SqT.of (s14 _ _ g3), atI_nat (j := 0) rfl, _, _, rfl, rfl, ?_⟩
        have e5 : lef one other (wd ss) z + wd ss z = best one other (wd ss) z := by
          rw [best_lef ho.nd, Int.add_comm]
        have q := kk _ (Same.refl _)
        rw [← e5] at q
        exact q
      · refine ⟨by show 1 ≤ sizeLine; decide, fun c3 n3 => ?_⟩
        have t3 := sn (o := .lst [.int 0]) n3
        refine ⟨F, c3, _, [.int 0], rfl, rfl, t3 _ _ hF, upd_same, ?_, fun p np => ?_⟩
        · have := sizeLine_eq
          rw [List.length_map]
          show _ + 1 ≤ _
          omega
        have t4 := sn (o := .lst ((ah one other j).map (fun e => V.int (best one other (wd ss) e)) ++ [.int 0])) np
        refine ⟨p, (ah one other j).map (best one other (wd ss)) ++ [0], rfl, SqL.of (by rw [upd_same, List.map_append, List.map_map]; rfl), by simp, fun m hm hmx => ?_⟩
        have em : m = lef one other (wd ss) j := mx0_of hm hmx
        have sAll := (s4.trans t3).trans t4
        have hj2 : j ∉ one.take i := fun m => by
          have := ((mem_take_pos ho.nd).mp m).2
          omega
        obtain ⟨H7, d1, d2, d3, d4⟩ := DD.put int_stb (hd.up int_stb sAll) (v := .int m) hj2 (by rw [List.length_take]; omega) (by rw [em])
        refine ⟨_, rfl, _, rfl, d, H7, rfl, d1, ?_⟩
        exact ⟨_, rfl, d4 H1 (s3.trans sAll) nd, by rw [take_snoc e1]; exact d2⟩
    · obtain ⟨v5, rfl, s3, hd⟩ := p
      have hd : DD (fun x v _ => v = .int (lef one other (wd ss) x)) H2 d (one.take ((NI one).map V.int).length) := hd
      rw [NI_vlen, List.take_length] at hd
      have s13 := s1.trans s3
      refine ⟨_, rfl, b, _, dx, _, _, rfl, (s13 _ _ hb), T.clB, T.nM, bF_many _ _, ss.length, rfl, by omega, by omega, lc_map (List.range ss.length) (fun x => .int (lef one other (wd ss) x)) walk_rgl (by rw [List.length_range]; omega) (fun _ _ => True.intro) (fun i z x H3 H4 hz s4 y Qt kk => ?_) (fun F H3 nF s4 hF => ?_)⟩
      · obtain ⟨rfl, rfl⟩ := y
        obtain ⟨rfl, hi⟩ := get_range hz
        obtain ⟨_, g1, rfl⟩ := (hd.up int_stb s4).get ho.nd (ho.mem hi)
        exact ⟨rfl, _, rfl, _, rfl, d, _, rfl, g1, kk _ (Same.refl _)⟩
      · refine ⟨F, _, rfl, .inl ⟨SqL.of hF, fun r nr => ?_⟩⟩
        refine k _ _ ((s13.trans s4).trans (sn nr)) ⟨r, rfl, ?_⟩
        rw [upd_same]
        unfold lefL
        rw [List.map_map]
        rfl
/-- all inside -/
def insB (ss : List (Int × Int)) (width : Int) (L : List Int) : Bool := (L.zip ss).all fun p => decide (0 ≤ p.1) && decide (p.1 ≤ width - p.2.1)
/-! are_inside: slots 0=boxes 1=width 2=lefts 3=left 4=size -/
def sp_are_inside (K : PySem.W.Frag) : Sp := fun vs H Q _ => ∃ (v u : V) (ss : List (Int × Int)) (width : Int) (L : List Int), vs = [v, .int width, u] ∧ BX K H v ss ∧ ss.length ≤ 40 ∧ L.length = ss.length ∧ TI H u L ∧ ∀ H', Same H H' → Q (.bl (insB ss width L)) H'
theorem sc_are_inside : FnScope ["boxes", "width", "lefts", "left", "size"] ["boxes", "width", "lefts"] (defScope (top 61)) := ⟨rfl, rfl, rfl, by decide +kernel, rfl, by decide +kernel, by decide +kernel⟩
theorem ok_are_inside {P : Program} {w : World} {K : PySem.W.Frag} {mg : Str → Option Value} {base : Heap} (T : Tx K mg) : Fn P w K mg base "are_inside" 1 ["boxes", "width", "lefts"] (sp_are_inside K) := by
  refine mkFn (k := 0) T.t_are_inside sc_are_inside (fun vs H Q E h => ?_) (fun _ _ _ _ _ _ us hl => match us, hl with | [_, _, _], _ => rfl) (fun f cdv A outer s H vs Q E hr h => ?_)
  · obtain ⟨v, u, ss, width, L, rfl, ⟨b, dx, _, rfl, hb, ta, tv, rfl, ht, hP⟩, h40, hL, ⟨la, rfl, hl⟩, k⟩ := h <;> rfl
  · refine ⟨_, (pss_one (ps_ret (pe_callB (k_all (K := K) rfl rfl) rfl T.f_all b_all (pa_cons (pe_lc (own := [("left", 3), ("size", 4)]) (g := (gTup K 2 (gCons (gName 3) (gCons (gName 4) gNil)))) (tt := tYes) rfl sc_are_inside.nd (k_zip (K := K) rfl rfl T.f_zip (pa_cons (pv 2) (pa_cons (k_fld (K := K) rfl (pv 0) rfl) pa_nil))) (blkOk_by (N := ["boxes", "width", "lefts", "left", "size"]) (sc := defScope (top 61)) (by decide +kernel)) (fun _ _ _ _ _ => (pg_tup rfl (pgs_cons (pg_name (i := 3) sc_are_inside.nd rfl (by first | exact Or.inl rfl | exact Or.inr rfl)) (pgs_cons (pg_name (i := 4) sc_are_inside.nd rfl (by first | exact Or.inl rfl | exact Or.inr rfl)) pgs_nil)))) (fun _ _ _ _ _ => pts_nil) (fun _ _ _ _ _ => (pe_chain op_le op_le pe_int (pv 3) (pe_op op_sub (pv 1) (pe_ix (k_ixT (K := K) rfl) (pv 4) pe_int (fun _ _ => rfl)))))) pa_nil)))), ?_⟩
    obtain ⟨v, u, ss, width, L, rfl, ⟨b, dx, _, rfl, hb, ta, tv, rfl, ht, hP⟩, h40, hL, ⟨la, rfl, hl⟩, k⟩ := h
    have lw := Paired.length hP
    refine ⟨_, rfl, _, rfl, b, _, dx, _, _, rfl, hb, T.clB, T.nS, bF_sizes _ _, la, ta, _, _, rfl, .inr ⟨SqT.of hl, SqT.of ht, lc_map (L.zip ss) (fun p => .bl (decide (0 ≤ p.1) && decide (p.1 ≤ width - p.2.1))) (walk_zipT (xs := L.map V.int) (ys := tv) (by rw [List.length_map, List.length_zip, lw])) (by rw [List.length_zip]; omega) (fun H' s => ⟨SqT.of (s _ _ hl), SqT.of (s _ _ ht)⟩) (fun i p x H1 H2 hz s1 y Qt kk => ?_) (fun D H1 nD s1 hD => ?_)⟩⟩
    · obtain ⟨U, x1, x2, rfl, nU, rfl, y1, y2⟩ := y
      have sU := sn (o := .tup [x1, x2]) nU
      obtain ⟨a, e1, rfl⟩ := mapI_get y1
      obtain ⟨s, e2, c, rfl, hc⟩ := paired_at hP y2
      have ep : (L.zip ss)[i]? = some (a, s) := List.getElem?_zip_eq_some.mpr ⟨e1, e2⟩
      cases Option.some.inj (hz.symm.trans ep)
      have kk2 := kk _ sU
      refine ⟨U, _, rfl, SqT.of upd_same, rfl, _, _, rfl, _, _, rfl, rfl, rfl, _, rfl, _, _, rfl, rfl, ?_⟩
      refine ⟨_, rfl, ite2 (fun z => ?_) (fun z => ?_)⟩
      · refine ⟨_, rfl, _, rfl, c, _, 0, _, rfl, rfl, SqT.of (sU _ _ (s1 _ _ hc)), atI_nat (j := 0) rfl, _, _, rfl, rfl, _, _, rfl, rfl, ?_⟩
        have z2 : decide ((0 : Int) ≤ a) = true := z
        simp only [z2, Bool.true_and] at kk2
        exact kk2
      · have z2 : decide ((0 : Int) ≤ a) = false := by
          cases e : decide ((0 : Int) ≤ a) with
          | false => rfl
          | true => exact absurd e z
        simp only [z2, Bool.false_and] at kk2
        exact kk2
    · exact ⟨D, (L.zip ss).map (fun p => decide (0 ≤ p.1) && decide (p.1 ≤ width - p.2.1)), rfl, SqL.of (by rw [hD, List.map_map]; rfl), qb (by unfold insB; rw [List.all_map]; rfl) (k H1 s1)⟩
theorem insB_iff {ss : List (Int × Int)} {width : Int} {L : List Int} (hL : L.length = ss.length) : insB ss width L = true ↔ ∀ x, x < ss.length → 0 ≤ L.getD x 0 ∧ L.getD x 0 ≤ width - wd ss x := by
  unfold insB
  rw [List.all_eq_true]
  have gd : ∀ x, x < L.length → L[x]? = some (L.getD x 0) := fun x h => by
    rw [List.getD_eq_getElem?_getD, List.getElem?_eq_getElem h]
    rfl
  constructor
  · intro h x hx
    have m : (L.getD x 0, (wd ss x, ht ss x)) ∈ L.zip ss := List.mem_of_getElem? (i := x) (List.getElem?_zip_eq_some.mpr ⟨gd x (by omega), ss_at hx⟩)
    have q := h _ m
    rw [Bool.and_eq_true] at q
    exact ⟨of_decide_eq_true q.1, of_decide_eq_true q.2⟩
  · intro h p hp
    obtain ⟨i, hi⟩ := List.mem_iff_getElem?.mp hp
    obtain ⟨e1, e2⟩ := List.getElem?_zip_eq_some.mp hi
    have hx := lt_at e2
    have q := h i hx
    have a1 := Option.some.inj (e1.symm.trans (gd i (by omega)))
    have a2 := Option.some.inj (e2.symm.trans (ss_at hx))
    rw [a1, a2]
    rw [Bool.and_eq_true]
    exact ⟨decide_eq_true q.1, decide_eq_true q.2⟩
theorem getD_of {L : List Int} {x : Nat} {a : Int} (h : L[x]? = some a) : L.getD x 0 = a := by
  rw [List.getD_eq_getElem?_getD, h]
  rfl
theorem insB_lef {ss : List (Int × Int)} {width : Int} {one other : List Nat} (ho : Ord ss.length one) (h0 : 0 ≤ width) : insB ss width (lefL ss.length one other (wd ss)) = fine one other (wd ss) width := by
  refine Bool.eq_iff_iff.mpr ?_
  rw [insB_iff lefL_len, inside_iff ho h0]
  constructor
  · intro h x hx
    have := h x hx
    rw [getD_of (lefL_at hx)] at this
    exact this
  · intro h x hx
    rw [getD_of (lefL_at hx)]
    exact h x hx
/-! stand: slots 0=boxes 1=width 2=one 3=other 4=found -/
def sp_stand (K : PySem.W.Frag) : Sp := fun vs H Q _ => ∃ (v u w : V) (ss : List (Int × Int)) (width : Int) (one other : List Nat), vs = [v, .int width, u, w] ∧ BX K H v ss ∧ Wf ss ∧ (∀ x, x < ss.length → wd ss x ≤ width) ∧ 0 ≤ width ∧ width ≤ 1000000 ∧ TN H u one ∧ TN H w other ∧ Ord ss.length one ∧ Ord ss.length other ∧
  (∀ H' z, Same H H' → fine one other (wd ss) width = true → TI H' z (lefL ss.length one other (wd ss)) → Q z H') ∧ ∀ H', Same H H' → fine one other (wd ss) width = false → Q .non H'
theorem sc_stand : FnScope ["boxes", "width", "one", "other", "found"] ["boxes", "width", "one", "other"] (defScope (top 62)) := ⟨rfl, rfl, rfl, by decide +kernel, rfl, by decide +kernel, by decide +kernel⟩
theorem ok_stand {P : Program} {w : World} {K : PySem.W.Frag} {mg : Str → Option Value} {base : Heap} (T : Tx K mg) : Fn P w K mg base "stand" 7 ["boxes", "width", "one", "other"] (sp_stand K) := by
  refine mkFn (k := 6) T.t_stand sc_stand (fun vs H Q E h => ?_) (fun _ _ _ _ _ _ us hl => match us, hl with | [_, _, _, _], _ => rfl) (fun f cdv A outer s H vs Q E hr h => ?_)
  · obtain ⟨v, u, w, ss, width, one, other, rfl, hB, wf, hw1, hw0, hw2, hu, hw, ho, ho2, k1, k2⟩ := h <;> rfl
  · refine ⟨_, (pss_cons (ps_expr (cl (ok_check_width T) (hr.mono (by decide)) rfl (pa_cons (pv 0) (pa_cons (pv 1) pa_nil))))
        (pss_cons (ps_expr (cl (ok_check_lists T) (hr.mono (by decide)) rfl (pa_cons (pv 0) (pa_cons (pv 2) (pa_cons (pv 3) pa_nil)))))
        (pss_cons (ps_set (i := 4) sc_stand.nd rfl (by first | exact Or.inl rfl | exact Or.inr rfl) (cl (ok_lefts_for T) (hr.mono (by decide)) rfl (pa_cons (pv 0) (pa_cons (pv 2) (pa_cons (pv 3) pa_nil)))))
        (pss_one (ps_ret (pe_ifExp (pt_val (cl (ok_are_inside T) (hr.mono (by decide)) rfl (pa_cons (pv 0) (pa_cons (pv 1) (pa_cons (pv 4) pa_nil))))) (pv 4) pe_non)))))), ?_⟩
    obtain ⟨v, u, w, ss, width, one, other, rfl, hB, wf, hw1, hw0, hw2, hu, hw, ho, ho2, k1, k2⟩ := h
    refine ⟨_, rfl, _, rfl, v, ss, width, rfl, hB, wf, hw1, hw2, fun H1 s1 => ?_⟩
    refine ⟨_, rfl, _, rfl, _, rfl, v, u, w, ss, one, other, rfl, hB.up (kp s1), wf.le, hu.up (kp s1), ho, hw.up (kp s1), ho2, fun H2 s2 => ?_⟩
    have s12 := s1.trans s2
    refine ⟨_, rfl, _, rfl, _, rfl, v, u, w, ss, one, other, rfl, hB.up (kp s12), wf.le, hu.up (kp s12), hw.up (kp s12), ho, ho2, fun H3 z s3 hz => ?_⟩
    have s13 := s12.trans s3
    refine ⟨_, rfl, _, rfl, _, rfl, v, z, ss, width, _, rfl, hB.up (kp s13), wf.le, lefL_len, hz, fun H4 s4 => ⟨_, rfl, ite2 (fun c => ?_) (fun c => ?_)⟩⟩
    · rw [insB_lef ho hw0] at c
      exact ⟨_, rfl, k1 H4 z (s13.trans s4) c (hz.up (kp s4))⟩
    · rw [insB_lef ho hw0] at c
      exact k2 H4 (s13.trans s4) (by simpa using c)
/-! are_apart: slots 0=boxes 1=lefts 2=one 3=other -/
def sp_are_apart (K : PySem.W.Frag) : Sp := fun vs H Q _ => ∃ (v u : V) (ss : List (Int × Int)) (L : List Int) (i j : Nat), vs = [v, u, .int (i : Nat), .int (j : Nat)] ∧ BX K H v ss ∧ TI H u L ∧ L.length = ss.length ∧ i < ss.length ∧ j < ss.length ∧ Q (.bl (decide (L.getD i 0 + wd ss i ≤ L.getD j 0) || decide (L.getD j 0 + wd ss j ≤ L.getD i 0))) H
theorem sc_are_apart : FnScope ["boxes", "lefts", "one", "other"] ["boxes", "lefts", "one", "other"] (defScope (top 64)) := ⟨rfl, rfl, rfl, by decide +kernel, rfl, by decide +kernel, by decide +kernel⟩
theorem ok_are_apart {P : Program} {w : World} {K : PySem.W.Frag} {mg : Str → Option Value} {base : Heap} (T : Tx K mg) : Fn P w K mg base "are_apart" 1 ["boxes", "lefts", "one", "other"] (sp_are_apart K) := by
  refine mkFn (k := 0) T.t_are_apart sc_are_apart (fun vs H Q E h => ?_) (fun _ _ _ _ _ _ us hl => match us, hl with | [_, _, _, _], _ => rfl) (fun f cdv A outer s H vs Q E hr h => ?_)
  · obtain ⟨v, u, ss, L, i, j, rfl, ⟨b, dx, _, rfl, hb, ta, tv, rfl, ht, hP⟩, ⟨la, rfl, hl⟩, hL, hi, hj, q⟩ := h <;> rfl
  · refine ⟨_, (pss_one (ps_ret (pe_or (pe_cmpR op_le (pe_op op_add (pe_ix (k_ixT (K := K) rfl) (pv 1) (pv 2) (fun _ _ => rfl)) (pe_ix (k_ixT (K := K) rfl) (pe_ix (k_ixT (K := K) rfl) (k_fld (K := K) rfl (pv 0) rfl) (pv 2) (fun _ _ => rfl)) pe_int (fun _ _ => rfl))) (pe_ix (k_ixT (K := K) rfl) (pv 1) (pv 3) (fun _ _ => rfl)) (nomark _)) (pe_one (pe_cmpR op_le (pe_op op_add (pe_ix (k_ixT (K := K) rfl) (pv 1) (pv 3) (fun _ _ => rfl)) (pe_ix (k_ixT (K := K) rfl) (pe_ix (k_ixT (K := K) rfl) (k_fld (K := K) rfl (pv 0) rfl) (pv 3) (fun _ _ => rfl)) pe_int (fun _ _ => rfl))) (pe_ix (k_ixT (K := K) rfl) (pv 1) (pv 2) (fun _ _ => rfl)) (nomark _)))))), ?_⟩
    obtain ⟨v, u, ss, L, i, j, rfl, ⟨b, dx, _, rfl, hb, ta, tv, rfl, ht, hP⟩, ⟨la, rfl, hl⟩, hL, hi, hj, q⟩ := h
    have gd : ∀ x, x < L.length → (L.map V.int)[x]? = some (.int (L.getD x 0)) := fun x h => by
      rw [List.getElem?_map, List.getD_eq_getElem?_getD, List.getElem?_eq_getElem h]
      rfl
    have g1 := gd i (by omega)
    have g2 := gd j (by omega)
    obtain ⟨_, f3, c3, rfl, h3⟩ := prd_get hP (ss_at hi)
    obtain ⟨_, f4, c4, rfl, h4⟩ := prd_get hP (ss_at hj)
    refine ⟨_, rfl, _, rfl, la, _, _, _, rfl, rfl, SqT.of hl, atI_nat g1, _, rfl, b, _, dx, _, _, rfl, hb, T.clB, T.nS, bF_sizes _ _, _, rfl, ta, _, _, (.ref c3), rfl, rfl, SqT.of ht, atI_nat f3, c3, _, 0, _, rfl, rfl, SqT.of h3, atI_nat (j := 0) rfl, _, _, rfl, rfl, ?_⟩
    refine ⟨_, rfl, _, rfl, la, _, _, _, rfl, rfl, SqT.of hl, atI_nat g2, _, _, rfl, rfl, _, rfl, ite2 (fun z => ?_) (fun z => ?_)⟩
    · have z2 : decide (L.getD i 0 + wd ss i ≤ L.getD j 0) = true := z
      rw [z2, Bool.true_or] at q
      exact q
    · have z2 : decide (L.getD i 0 + wd ss i ≤ L.getD j 0) = false := by
        cases e : decide (L.getD i 0 + wd ss i ≤ L.getD j 0) with
        | false => rfl
        | true => exact absurd e z
      rw [z2, Bool.false_or] at q
      refine ⟨_, rfl, _, rfl, la, _, _, _, rfl, rfl, SqT.of hl, atI_nat g2, _, rfl, b, _, dx, _, _, rfl, hb, T.clB, T.nS, bF_sizes _ _, _, rfl, ta, _, _, (.ref c4), rfl, rfl, SqT.of ht, atI_nat f4, c4, _, 0, _, rfl, rfl, SqT.of h4, atI_nat (j := 0) rfl, _, _, rfl, rfl, ?_⟩
      exact ⟨_, rfl, _, rfl, la, _, _, _, rfl, rfl, SqT.of hl, atI_nat g1, _, _, rfl, rfl, q⟩
/-! ### a walk whose turns end in Nx, over heaps alone -/
theorem it2 {J : It} {n : Nat} {Gd : Hp → Prop} {Y : Nat → Hp → V → Hp → Prop} (w : Walk J n Gd Y) (Pv : Nat → Hp → Prop) {H0 : Hp} {Qd : Hp → Prop} {body : V → Hp → (Hp → Prop) → Prop} (h0 : Pv 0 H0) (hG : ∀ i H, i ≤ n → Pv i H → Gd H)
    (hs : ∀ i x H H', i < n → Pv i H → Y i H x H' → body x H' (Pv (i + 1))) (hd : ∀ H, Pv n H → Qd H) :
    ∃ W : Nat → Nat → Hp → Prop, (∃ m, W 0 m H0) ∧ ∀ i m H, W i m H → (J.stop i H ∧ Qd H) ∨ (J.go i H ∧ ∃ Nx : Hp → Prop, (∀ H', Nx H' → ∃ m', m' < m ∧ W (i + 1) m' H') ∧ ∀ x H', J.yld i H x H' → body x H' Nx) := by
  refine ⟨fun i m H => m = n - i ∧ i ≤ n ∧ Pv i H, ⟨n, by simp, Nat.zero_le _, h0⟩, ?_⟩
  rintro i m H ⟨rfl, hi, p⟩
  have q := hG i H hi p
  by_cases hlt : i < n
  · right
    refine ⟨w.goes i H hlt q, Pv (i + 1), fun H' p' => ⟨n - (i + 1), by omega, rfl, by omega, p'⟩, fun x H' y => hs i x H H' hlt p (w.yields i H x H' hlt q y)⟩
  · left
    have e : i = n := by omega
    subst e
    exact ⟨w.stops H q, hd H p⟩
theorem rd_up {H H' : Hp} {a : Addr} {o : HO} (h : Rd H a o) (s : Same H H') : Rd H' a o := h.elim (fun h => .inl (s _ _ h)) fun ⟨o, h⟩ => .inr ⟨o, s _ _ h⟩
theorem dget_up {H H' : Hp} {a : Addr} {y : V} {r : Option V} (h : DGet H a y r) (s : Same H H') : DGet H' a y r := by
  rcases h with ⟨kvs, k, h1, h2, h3⟩ | ⟨kvs, k, b, h1, h2, h3, h4⟩
  · exact .inl ⟨kvs, k, rd_up h1 s, h2, h3⟩
  · exact .inr ⟨kvs, k, b, rd_up h1 s, h2, s _ _ h3, h4⟩
/-- a good stand: a tuple of ints, all inside, all turned pairs apart -/
def GS (H : Hp) (ss : List (Int × Int)) (width : Int) (one other : List Nat) (v : V) : Prop := ∃ (a : Addr) (L : List Int), v = .ref a ∧ H a = some (.tup (L.map V.int)) ∧ L.length = ss.length ∧ Stand ss.length one other (wd ss) width (fun x => L.getD x 0)
def toI : V → Int
  | .int i => i
  | _ => 0
theorem all_int : ∀ {xs : List V}, xs.all isInt = true → ∃ L : List Int, xs = L.map V.int
  | [], _ => ⟨[], rfl⟩
  | x :: xs, h => by
    rw [List.all_cons, Bool.and_eq_true] at h
    obtain ⟨L, e⟩ := all_int h.2
    cases x with
    | int i => exact ⟨i :: L, by rw [e]; rfl⟩
    | _ => exact absurd h.1 (fun z => by cases z)
theorem mapI_inj {a b : List Int} (h : a.map V.int = b.map V.int) : a = b := by
  have e : ∀ l : List Int, (l.map V.int).map toI = l := fun l => by
    rw [List.map_map]
    exact List.map_id l
  rw [← e a, h, e b]
theorem map_all_int (L : List Int) : (L.map V.int).all isInt = true := by
  rw [List.all_map, List.all_eq_true]
  intro _ _
  rfl
theorem GS.of {H : Hp} {ss : List (Int × Int)} {width : Int} {one other : List Nat} {a : Addr} {L : List Int} (h : H a = some (.tup (L.map V.int))) : GS H ss width one other (.ref a) ↔ L.length = ss.length ∧ Stand ss.length one other (wd ss) width (fun x => L.getD x 0) := by
  constructor
  · rintro ⟨a2, L2, e, h2, h3, h4⟩
    cases e
    have e2 := mapI_inj (HO.tup.inj (Option.some.inj (h.symm.trans h2)))
    subst e2
    exact ⟨h3, h4⟩
  · rintro ⟨h3, h4⟩
    exact ⟨a, L, rfl, h, h3, h4⟩
def apB (ss : List (Int × Int)) (L : List Int) (i j : Nat) : Bool := decide (L.getD i 0 + wd ss i ≤ L.getD j 0) || decide (L.getD j 0 + wd ss j ≤ L.getD i 0)
theorem stand_iff {ss : List (Int × Int)} {width : Int} {one other : List Nat} {L : List Int} (hL : L.length = ss.length) (ho : Ord ss.length one) (hi : insB ss width L = true) : (∀ x ∈ one, ∀ e ∈ ah one other x, apB ss L x e = true) ↔ Stand ss.length one other (wd ss) width (fun x => L.getD x 0) := by
  unfold Stand
  constructor
  · intro h
    refine ⟨(insB_iff hL).mp hi, fun e x he hx t => ?_⟩
    have q := h x (ho.mem hx) e ((mem_ah ho.nd).mpr ⟨ho.mem he, t⟩)
    unfold apB at q
    rw [Bool.or_eq_true] at q
    rcases q with q | q
    · exact .inr (of_decide_eq_true q)
    · exact .inl (of_decide_eq_true q)
  · rintro ⟨_, h⟩ x hx e he
    have m := (mem_ah ho.nd).mp he
    unfold apB
    rw [Bool.or_eq_true]
    rcases h e x (ho.lt m.1) (ho.lt hx) m.2 with q | q
    · exact .inr (decide_eq_true q)
    · exact .inl (decide_eq_true q)
theorem all_snoc (bs : List Bool) (b : Bool) : (bs ++ [b]).all id = true ↔ bs.all id = true ∧ b = true := by
  rw [List.all_append, Bool.and_eq_true]
  simp
/-! is_stand: slots 0=boxes 1=width 2=one 3=other 4=thing 5=ahead 6=box 7=elder -/
def sp_is_stand (K : PySem.W.Frag) : Sp := fun vs H Q _ => ∃ (v u w th : V) (ss : List (Int × Int)) (width : Int) (one other : List Nat), vs = [v, .int width, u, w, th] ∧ BX K H v ss ∧ Wf ss ∧ (∀ x, x < ss.length → wd ss x ≤ width) ∧ 0 ≤ width ∧ width ≤ 1000000 ∧ TN H u one ∧ TN H w other ∧ Ord ss.length one ∧ Ord ss.length other ∧ Th H th ∧
  ∀ H' b, Same H H' → (b = true ↔ GS H ss width one other th) → Q (.bl b) H'
theorem sc_is_stand : FnScope ["boxes", "width", "one", "other", "thing", "ahead", "box", "elder"] ["boxes", "width", "one", "other", "thing"] (defScope (top 63)) := ⟨rfl, rfl, rfl, by decide +kernel, rfl, by decide +kernel, by decide +kernel⟩
theorem ok_is_stand {P : Program} {w : World} {K : PySem.W.Frag} {mg : Str → Option Value} {base : Heap} (T : Tx K mg) : Fn P w K mg base "is_stand" 7 ["boxes", "width", "one", "other", "thing"] (sp_is_stand K) := by
  refine mkFn (k := 6) T.t_is_stand sc_is_stand (fun vs H Q E h => ?_) (fun _ _ _ _ _ _ us hl => match us, hl with | [_, _, _, _, _], _ => rfl) (fun f cdv A outer s H vs Q E hr h => ?_)
  · obtain ⟨v, u, w, th, ss, width, one, other, rfl, hB, wf, hw1, hw0, hw2, hu, hw, ho, ho2, hth, k⟩ := h <;> rfl
  · refine ⟨_, (pss_cons (ps_expr (cl (ok_check_width T) (hr.mono (by decide)) rfl (pa_cons (pv 0) (pa_cons (pv 1) pa_nil))))
        (pss_cons (ps_expr (cl (ok_check_lists T) (hr.mono (by decide)) rfl (pa_cons (pv 0) (pa_cons (pv 2) (pa_cons (pv 3) pa_nil)))))
        (pss_cons (ps_if (PW.pt (pw_or (pt_not (pt_val (cl (ok_are_integers T) (hr.mono (by decide)) rfl (pa_cons (pv 4) (pa_cons (k_fld (K := K) rfl (pv 0) rfl) pa_nil))))) (pw_or1 (pt_not (pt_val (cl (ok_are_inside T) (hr.mono (by decide)) rfl (pa_cons (pv 0) (pa_cons (pv 1) (pa_cons (pv 4) pa_nil))))))))) (pss_one (ps_ret pe_bl)) pss_nil)
        (pss_cons (ps_set (i := 5) sc_is_stand.nd rfl (by first | exact Or.inl rfl | exact Or.inr rfl) (cl (ok_turned_ahead T) (hr.mono (by decide)) rfl (pa_cons (pv 2) (pa_cons (pv 3) pa_nil))))
        (pss_one (ps_ret (pe_callB (k_all (K := K) rfl rfl) rfl T.f_all b_all (pa_cons (pe_lc2 (own := [("box", 6), ("elder", 7)]) (vs1 := [7]) (g := (gName 6)) (tt := tYes) (g1 := (gName 7)) (tt1 := tYes) rfl sc_is_stand.nd (k_pt (K := K) rfl (pv 2)) (blkOk_by (N := ["boxes", "width", "one", "other", "thing", "ahead", "box", "elder"]) (sc := defScope (top 63)) (by decide +kernel)) (by decide) (fun _ _ _ _ _ => (pg_name (i := 6) sc_is_stand.nd rfl (by first | exact Or.inl rfl | exact Or.inr rfl))) (fun _ _ _ _ _ => pts_nil) (fun _ _ _ _ _ => (k_pl (K := K) rfl (pe_dget (hu_of hr) (pv 5) (pv 6) (fun _ _ => rfl)))) (fun _ _ _ _ _ => (pg_name (i := 7) sc_is_stand.nd rfl (by first | exact Or.inl rfl | exact Or.inr rfl))) (fun _ _ _ _ _ => pts_nil) (fun _ _ _ _ _ => (cl (ok_are_apart T) (hr.mono (by decide)) rfl (pa_cons (pv 0) (pa_cons (pv 4) (pa_cons (pv 6) (pa_cons (pv 7) pa_nil))))))) pa_nil)))))))), ?_⟩
    obtain ⟨v, u, w, th, ss, width, one, other, rfl, hB, wf, hw1, hw0, hw2, hu, hw, ho, ho2, hth, k⟩ := h
    refine ⟨_, rfl, _, rfl, v, ss, width, rfl, hB, wf, hw1, hw2, fun H1 s1 => ?_⟩
    refine ⟨_, rfl, _, rfl, _, rfl, v, u, w, ss, one, other, rfl, hB.up (kp s1), wf.le, hu.up (kp s1), ho, hw.up (kp s1), ho2, fun H2 s2 => ?_⟩
    have s12 := s1.trans s2
    have h40 := wf.le
    obtain ⟨b, dx, t, rfl, hb, hts⟩ := id hB
    rcases hth with ⟨a, xs, rfl, hx, hk⟩ | hnt
    · refine ⟨_, rfl, _, rfl, b, _, dx, _, _, rfl, (s12 _ _ hb), T.clB, T.nM, bF_many _ _, .inl ⟨a, xs, ss.length, rfl, s12 _ _ hx, by omega, fun x m => (hk x m).up (kp s12), fun H3 s3 => ⟨_, rfl, ?_⟩⟩⟩
      have s13 := s12.trans s3
      by_cases c : (decide (xs.length = ss.length) && xs.all isInt) = true
      · rw [c]
        rw [Bool.and_eq_true] at c
        obtain ⟨L, rfl⟩ := all_int c.2
        have hL : L.length = ss.length := by
          have := of_decide_eq_true c.1
          rw [List.length_map] at this
          exact this
        refine if0 rfl ?_
        refine ⟨_, rfl, _, rfl, _, rfl, _, .ref a, ss, width, L, rfl, hB.up (kp s13), h40, hL, ⟨a, rfl, s13 _ _ hx⟩, fun H4 s4 => ⟨_, rfl, ?_⟩⟩
        have s14 := s13.trans s4
        by_cases ci : insB ss width L = true
        · rw [ci]
          refine if0 rfl ?_
          refine ⟨_, rfl, _, rfl, u, w, ss.length, one, other, rfl, hu.up (kp s14), hw.up (kp s14), ho, ho2, h40, fun H5 da s5 hda => ?_⟩
          have s15 := s14.trans s5
          obtain ⟨la, rfl, hl⟩ := hu.up (kp s15)
          refine ⟨_, rfl, la, rfl, ⟨_, SqT.of hl⟩, fun D nD => ?_⟩
          have sD := sn (o := .lst []) nD
          have ll := ho.len
          refine it2 (walk_tupn (n := one.length) (NI_vlen _)) (fun i H' => Same H5 H' ∧ ∃ bs : List Bool, H' D = some (.lst (bs.map V.bl)) ∧ bs.length ≤ i * 40 ∧ (bs.all id = true ↔ ∀ x ∈ one.take i, ∀ e ∈ ah one other x, apB ss L x e = true)) ⟨sD, [], upd_same, Nat.zero_le _, by simp⟩ (fun i H' _ p => SqT.of (p.1 _ _ hl)) (fun i x H6 H7 hi p y => ?_) (fun H6 p => ?_)
          · obtain ⟨s6, bs, hD, hlen, hall⟩ := p
            obtain ⟨rfl, hx2⟩ := y
            obtain ⟨j, e1, rfl⟩ := NI_at hx2
            have hj := ho.lt (List.mem_of_getElem? e1)
            obtain ⟨_, g0, ea, rfl, hEA⟩ := hda.get ho.nd (ho.mem hj)
            have g1 := dget_up g0 s6
            have ge := s6 _ _ hEA
            have la40 : (ah one other j).length ≤ 40 := by
              unfold ah
              refine Nat.le_trans (List.length_filter_le _ _) ?_
              rw [List.length_take]
              omega
            refine ⟨rfl, _, rfl, _, rfl, da, _, rfl, g1, ea, rfl, ⟨_, SqL.of ge⟩, ?_⟩
            refine it2 (walk_listn (n := (ah one other j).length) (NI_vlen _)) (fun m H' => Same H5 H' ∧ ∃ bs : List Bool, H' D = some (.lst (bs.map V.bl)) ∧ bs.length ≤ i * 40 + m ∧ (bs.all id = true ↔ (∀ x ∈ one.take i, ∀ e ∈ ah one other x, apB ss L x e = true) ∧ ∀ e ∈ (ah one other j).take m, apB ss L j e = true)) ⟨s6, bs, hD, hlen, by simpa using hall⟩ (fun m H' _ p => SqL.of (p.1 _ _ hEA)) (fun m x H8 H9 hm p y => ?_) (fun H8 p => ?_)
            · obtain ⟨s8, bs, hD, hlen, hall⟩ := p
              obtain ⟨rfl, hx3⟩ := y
              obtain ⟨z, e2, rfl⟩ := NI_at hx3
              have hz := ((mem_ah ho.nd).mp (List.mem_of_getElem? e2)).1
              have s18 := s15.trans s8
              refine ⟨rfl, _, rfl, _, rfl, _, rfl, _, rfl, _, _, ss, L, j, z, rfl, hB.up (kp s18), ⟨a, rfl, s18 _ _ hx⟩, hL, hj, ho.lt hz, ?_⟩
              have i40 : i * 40 ≤ 1600 := by omega
              refine ⟨_, hD, by rw [List.length_map]; exact lt_line (by omega), same_mut s8 nD, bs ++ [apB ss L j z], ?_, by rw [List.length_append, List.length_singleton]; omega, ?_⟩
              · rw [upd_same, List.map_append]
                rfl
              · rw [all_snoc, hall, take_snoc e2]
                constructor
                · rintro ⟨⟨q1, q2⟩, q3⟩
                  refine ⟨q1, fun e he => ?_⟩
                  rcases List.mem_append.mp he with h | h
                  · exact q2 e h
                  · rw [List.mem_singleton.mp h]
                    exact q3
                · rintro ⟨q1, q2⟩
                  exact ⟨⟨q1, fun e he => q2 e (List.mem_append_left _ he)⟩, q2 z (List.mem_append_right _ (List.mem_singleton.mpr rfl))⟩
            · obtain ⟨s8, bs, hD, hlen, hall⟩ := p
              refine ⟨s8, bs, hD, by omega, ?_⟩
              rw [List.take_length] at hall
              rw [hall, take_snoc e1]
              constructor
              · rintro ⟨q1, q2⟩ x hx4
                rcases List.mem_append.mp hx4 with h | h
                · exact q1 x h
                · rw [List.mem_singleton.mp h]
                  exact q2
              · intro q
                exact ⟨fun x hx4 => q x (List.mem_append_left _ hx4), q j (List.mem_append_right _ (List.mem_singleton.mpr rfl))⟩
          · obtain ⟨s6, bs, hD, hlen, hall⟩ := p
            rw [List.take_length] at hall
            refine ⟨D, bs, rfl, SqL.of hD, k H6 _ (s15.trans s6) ?_⟩
            rw [hall, stand_iff hL ho ci, GS.of hx]
            exact ⟨fun q => ⟨hL, q⟩, fun q => q.2⟩
        · have ci2 : insB ss width L = false := by simpa using ci
          rw [ci2]
          refine if1 rfl (k H4 false s14 ?_)
          rw [GS.of hx]
          constructor
          · intro q
            cases q
          · rintro ⟨_, q⟩
            exact absurd ((insB_iff hL).mpr q.1) ci
      · have c2 : (decide (xs.length = ss.length) && xs.all isInt) = false := by simpa using c
        rw [c2]
        refine if1 rfl (k H3 false s13 ?_)
        constructor
        · intro q
          cases q
        · rintro ⟨a2, L2, e, h2, h3, h4⟩
          cases e
          have e2 := HO.tup.inj (Option.some.inj (hx.symm.trans h2))
          subst e2
          refine absurd ?_ c
          rw [Bool.and_eq_true]
          exact ⟨decide_eq_true (by rw [List.length_map]; exact h3), map_all_int _⟩
    · refine ⟨_, rfl, _, rfl, b, _, dx, _, _, rfl, (s12 _ _ hb), T.clB, T.nM, bF_many _ _, .inr ⟨th, ss.length, rfl, ⟨hnt.1.up (kp s12), fun a xs e h => ?_⟩, ⟨_, rfl, if1 rfl (k H2 false s12 ?_)⟩⟩⟩
      · subst e
        cases hnt.1 with
        | lst e => 
          rw [s12 _ _ e] at h
          cases h
        | tup e => exact hnt.2 _ _ rfl e
        | dK e =>
          rw [s12 _ _ e] at h
          cases h
      · constructor
        · intro q
          cases q
        · rintro ⟨a2, L2, e, h2, h3, h4⟩
          exact absurd h2 (hnt.2 a2 _ e)
end K20

namespace K20
open PySem PySem.Spec PyProof.Rows L2
/-! ### the hand: a list that each draw writes -/
def HdA (H : Hp) (hd ce : Addr) (cs : List Int) (i : Nat) (b st n : Int) : Prop := H hd = some (.lst [.ref ce, .int (i : Nat), .int b, .int st, .int n]) ∧ ce ≠ hd ∧ H ce = some (.lst (cs.map V.int))
def Hd (H : Hp) (hd ce : Addr) : Prop := ∃ cs i b st n, HdA H hd ce cs i b st n
/-- all but the hand stands as it was -/
def Keep (hd : Addr) (H H' : Hp) : Prop := ∀ a u, a ≠ hd → H a = some u → H' a = some u
structure Dr (hd ce : Addr) (H H' : Hp) : Prop where
  a : Hd H hd ce
  b : Hd H' hd ce
  k : Keep hd H H'
theorem Hd.up {H H' : Hp} {hd ce : Addr} (h : Hd H hd ce) (s : Same H H') : Hd H' hd ce := by
  obtain ⟨cs, i, b, st, n, h0, h1, h2⟩ := h
  exact ⟨cs, i, b, st, n, s _ _ h0, h1, s _ _ h2⟩
theorem Dr.of {H H' : Hp} {hd ce : Addr} (h : Hd H hd ce) (s : Same H H') : Dr hd ce H H' := ⟨h, h.up s, fun _ _ _ q => s _ _ q⟩
theorem Dr.refl {H : Hp} {hd ce : Addr} (h : Hd H hd ce) : Dr hd ce H H := .of h (Same.refl _)
theorem Dr.trans {H H1 H2 : Hp} {hd ce : Addr} (x : Dr hd ce H H1) (y : Dr hd ce H1 H2) : Dr hd ce H H2 := ⟨x.a, y.b, fun a u n q => y.k a u n (x.k a u n q)⟩
theorem Dr.same {H H1 H2 : Hp} {hd ce : Addr} (x : Dr hd ce H H1) (s : Same H1 H2) : Dr hd ce H H2 := x.trans (.of x.b s)
theorem Dr.kp {H H' : Hp} {hd ce : Addr} (x : Dr hd ce H H') : Kp H H' := fun a u h => by
  by_cases e : a = hd
  · subst e
    obtain ⟨cs, i, b, st, n, h0, _, _⟩ := x.a
    obtain ⟨cs', i', b', st', n', h0', _, _⟩ := x.b
    rw [h0] at h
    cases h
    exact ⟨_, h0', _, rfl⟩
  · exact ⟨u, x.k a u e h, Sk.refl u⟩
theorem Dr.nof {H H' : Hp} {hd ce p : Addr} (x : Dr hd ce H H') (h : H' p = none) : H p = none := by
  cases e : H p with
  | none => rfl
  | some u =>
    obtain ⟨o, h1, _⟩ := x.kp p u e
    rw [h1] at h
    cases h
theorem Hd.ne {H : Hp} {hd ce p : Addr} (x : Hd H hd ce) (h : H p = none) : p ≠ hd ∧ p ≠ ce := by
  obtain ⟨cs, i, b, st, n, h0, _, h2⟩ := x
  constructor
  · intro e
    rw [e, h0] at h
    cases h
  · intro e
    rw [e, h2] at h
    cases h
/-- a list of our own, written anew -/
theorem Dr.mut {H H' : Hp} {hd ce p : Addr} {o : HO} (x : Dr hd ce H H') (h : H p = none) : Dr hd ce H (upd H' p o) := by
  obtain ⟨n1, n2⟩ := x.a.ne h
  refine ⟨x.a, ?_, fun a u n q => ?_⟩
  · obtain ⟨cs, i, b, st, n, h0, h1, h2⟩ := x.b
    exact ⟨cs, i, b, st, n, by rw [upd_ne (Ne.symm n1)]; exact h0, h1, by rw [upd_ne (Ne.symm n2)]; exact h2⟩
  · rw [upd_ne (ne_of_none q h)]
    exact x.k a u n q
theorem Dr.lst {H H' : Hp} {hd ce p : Addr} {xs : List V} (x : Dr hd ce H H') (n : p ≠ hd) (h : H p = some (.lst xs)) : H' p = some (.lst xs) := x.k p _ n h
theorem seq_via {tA tB : TS} {D : Ends} {σ : L2.St} {H : Hp} (Pv : L2.St → Hp → Prop) (h1 : ∀ R : L2.St → Hp → Prop, (∀ σ' H', Pv σ' H' → R σ' H') → tA { D with nx := R } σ H) (h2 : ∀ σ' H', Pv σ' H' → tB D σ' H') : tSeq tA tB D σ H := h1 (tB D) h2
theorem mod_nat (x : Int) {m : Int} (hm : 0 < m) : ∃ d : Nat, ((d : Nat) : Int) = x % m ∧ (d : Int) < m := by
  obtain ⟨d, e⟩ := Int.eq_ofNat_of_zero_le (Int.emod_nonneg x (by omega : m ≠ 0))
  have l := Int.emod_lt_of_pos x hm
  rw [e] at l
  exact ⟨d, e.symm, l⟩
theorem m64 (x : Int) {k : Int} (hk : 0 < k) (h2 : k ≤ 1099511627776) : -(2 ^ 64) < x % k ∧ x % k < 2 ^ 64 := by
  have a := Int.emod_nonneg x (by omega : k ≠ 0)
  have b := Int.emod_lt_of_pos x hk
  exact ⟨by omega, by omega⟩
/-! _law_draw: slots 0=_law_hand_here 1=_law_many 2=_law_cell 3=_law_digit 4=_law_number -/
def sp_law_draw : Sp := fun vs H Q _ => ∃ (hd ce : Addr) (m : Int), vs = [.ref hd, .int m] ∧ 0 < m ∧ m < 1073741824 ∧ Hd H hd ce ∧ ∀ H' (d : Nat), Dr hd ce H H' → (d : Int) < m → Q (.int (d : Nat)) H'
theorem sc_law_draw : FnScope ["_law_hand_here", "_law_many", "_law_cell", "_law_digit", "_law_number"] ["_law_hand_here", "_law_many"] (defScope (top 66)) := ⟨rfl, rfl, rfl, by decide +kernel, rfl, by decide +kernel, by decide +kernel⟩
theorem ok_law_draw {P : Program} {w : World} {K : PySem.W.Frag} {mg : Str → Option Value} {base : Heap} (T : Tx K mg) : Fn P w K mg base "_law_draw" 1 ["_law_hand_here", "_law_many"] (sp_law_draw) := by
  refine mkFn (k := 0) T.t__law_draw sc_law_draw (fun vs H Q E h => ?_) (fun _ _ _ _ _ _ us hl => match us, hl with | [_, _], _ => rfl) (fun f cdv A outer s H vs Q E hr h => ?_)
  · obtain ⟨hd, ce, m, rfl, hm, hm2, ⟨cs, i, b, st, n, h0, h1, h2⟩, k⟩ := h <;> rfl
  · refine ⟨_, (pss_cons (ps_if (PW.pt (pw_and (pt_cmpR op_eq (pe_ix (k_ixL (K := K) rfl) (pv 0) pe_int (fun _ _ => rfl)) pe_int (nomark _)) (pw_and1 (pt_cmpR op_lt (pe_ix (k_ixL (K := K) rfl) (pv 0) pe_int (fun _ _ => rfl)) (pe_callB (k_len (K := K) rfl) rfl T.f_len b_len (pa_cons (pe_ix (k_ixL (K := K) rfl) (pv 0) pe_int (fun _ _ => rfl)) pa_nil)) (nomark _))))) (pss_cons (ps_set (i := 2) sc_law_draw.nd rfl (by first | exact Or.inl rfl | exact Or.inr rfl) (pe_ix (k_ixL (K := K) rfl) (pe_ix (k_ixL (K := K) rfl) (pv 0) pe_int (fun _ _ => rfl)) (pe_ix (k_ixL (K := K) rfl) (pv 0) pe_int (fun _ _ => rfl)) (fun _ _ => rfl)))
        (pss_cons (ps_asg (pe_op op_add (pe_ix (k_ixL (K := K) rfl) (pv 0) pe_int (fun _ _ => rfl)) pe_int) (pg_sub (pv 0) pe_int set_list))
        (pss_cons (ps_asg (pe_op op_mod (pe_callTy call_int1 rfl T.f_int b_int (pa_cons (pe_op op_add (pe_op op_add (pe_op op_mul (pe_ix (k_ixL (K := K) rfl) (pv 0) pe_int (fun _ _ => rfl)) pe_int) (pv 2)) pe_int) pa_nil)) pe_int) (pg_sub (pv 0) pe_int set_list))
        (pss_one (ps_if (pt_cmpR op_ge (pv 2) (pe_op op_pow pe_int pe_int) (nomark _)) (pss_one (ps_asg (pv 2) (pg_sub (pv 0) pe_int set_list))) pss_nil))))) pss_nil)
        (pss_cons (ps_if (pt_cmpR op_gt (pe_ix (k_ixL (K := K) rfl) (pv 0) pe_int (fun _ _ => rfl)) pe_int (nomark _)) (pss_cons (ps_set (i := 3) sc_law_draw.nd rfl (by first | exact Or.inl rfl | exact Or.inr rfl) (pe_op op_mod (pe_callTy call_int1 rfl T.f_int b_int (pa_cons (pe_ix (k_ixL (K := K) rfl) (pv 0) pe_int (fun _ _ => rfl)) pa_nil)) (pv 1)))
        (pss_cons (ps_asg (pe_op op_fdiv (pe_ix (k_ixL (K := K) rfl) (pv 0) pe_int (fun _ _ => rfl)) (pv 1)) (pg_sub (pv 0) pe_int set_list))
        (pss_one (ps_ret (pv 3))))) pss_nil)
        (pss_cons (ps_asg (pe_op op_add (pe_ix (k_ixL (K := K) rfl) (pv 0) pe_int (fun _ _ => rfl)) pe_int) (pg_sub (pv 0) pe_int set_list))
        (pss_cons (ps_set (i := 4) sc_law_draw.nd rfl (by first | exact Or.inl rfl | exact Or.inr rfl) (pe_op op_mod (pe_callTy call_int1 rfl T.f_int b_int (pa_cons (pe_op op_mul (pe_callTy call_int1 rfl T.f_int b_int (pa_cons (pe_op op_add (pe_ix (k_ixL (K := K) rfl) (pv 0) pe_int (fun _ _ => rfl)) (pe_op op_mul pe_int (pe_ix (k_ixL (K := K) rfl) (pv 0) pe_int (fun _ _ => rfl)))) pa_nil)) pe_int) pa_nil)) pe_int))
        (pss_cons (ps_set (i := 4) sc_law_draw.nd rfl (by first | exact Or.inl rfl | exact Or.inr rfl) (pe_op op_mod (pe_callTy call_int1 rfl T.f_int b_int (pa_cons (pe_op op_mul (pv 4) (pe_op op_add (pe_op op_fdiv (pv 4) pe_int) pe_int)) pa_nil)) pe_int))
        (pss_cons (ps_set (i := 4) sc_law_draw.nd rfl (by first | exact Or.inl rfl | exact Or.inr rfl) (pe_op op_mod (pe_callTy call_int1 rfl T.f_int b_int (pa_cons (pe_op op_mul (pv 4) (pe_op op_add (pe_op op_fdiv (pv 4) pe_int) pe_int)) pa_nil)) pe_int))
        (pss_one (ps_ret (pe_op op_mod (pe_callTy call_int1 rfl T.f_int b_int (pa_cons (pe_op op_fdiv (pv 4) pe_int) pa_nil)) (pv 1)))))))))), ?_⟩
    obtain ⟨hd, ce, m, rfl, hm, hm2, ⟨cs, i, b, st, n, h0, h1, h2⟩, k⟩ := h
    have hH : Hd H hd ce := ⟨cs, i, b, st, n, h0, h1, h2⟩
    have k2 : ∀ H' (x : Int), Dr hd ce H H' → Q (.int (x % m)) H' := fun H' x r => by
      obtain ⟨d, e, l⟩ := mod_nat x hm
      rw [← e]
      exact k H' d r l
    refine seq_via (fun σ' H' => ∃ v2 cs i b st n, σ' = [some (.ref hd), some (.int m), v2, none, none] ∧ HdA H' hd ce cs i b st n ∧ Keep hd H H') (fun R hR => ?_) (fun σ' H' p => ?_)
    · refine ⟨_, rfl, hd, _, 2, _, rfl, rfl, SqL.of h0, atI_nat (j := 2) rfl, rfl, _, rfl, ite2 (fun z => ?_) (fun z => hR _ _ ⟨none, cs, i, b, st, n, rfl, ⟨h0, h1, h2⟩, fun _ _ _ h => h⟩)⟩
      refine ⟨_, rfl, hd, _, 1, _, rfl, rfl, SqL.of h0, atI_nat (j := 1) rfl, _, rfl, hd, _, 0, _, rfl, rfl, SqL.of h0, atI_nat (j := 0) rfl, ce, _, rfl, .inl (SqL.of h2), _, _, rfl, rfl, _, rfl, ite2 (fun z2 => ?_) (fun z => hR _ _ ⟨none, cs, i, b, st, n, rfl, ⟨h0, h1, h2⟩, fun _ _ _ h => h⟩)⟩
      have z3 : (i : Int) < ((cs.map V.int).length : Nat) := of_decide_eq_true z2
      rw [List.length_map] at z3
      obtain ⟨c, hc⟩ := at_lt (l := cs) (i := i) (by omega)
      have hc2 : (cs.map V.int)[i]? = some (.int c) := by
        rw [List.getElem?_map, hc]
        rfl
      refine ⟨_, rfl, hd, _, 0, _, rfl, rfl, SqL.of h0, atI_nat (j := 0) rfl, _, rfl, hd, _, 1, _, rfl, rfl, SqL.of h0, atI_nat (j := 1) rfl, ce, _, (i : Nat), .int c, rfl, rfl, SqL.of h2, atI_nat hc2, ?_⟩
      refine ⟨_, rfl, hd, _, 1, _, rfl, rfl, SqL.of h0, atI_nat (j := 1) rfl, _, _, rfl, rfl, _, rfl, hd, _, 1, 1, rfl, rfl, h0, rfl, ?_⟩
      refine ⟨_, rfl, hd, _, 3, _, rfl, rfl, SqL.of upd_same, atI_nat (j := 3) rfl, _, _, rfl, rfl, .inr ⟨by decide, by decide⟩, _, rfl, _, _, rfl, rfl, _, _, rfl, rfl, .inl ⟨_, rfl, _, _, rfl, rfl, (by show (0 : Int) < _; decide), _, rfl, hd, _, 3, 3, rfl, rfl, upd_same, rfl, ?_⟩⟩
      refine ⟨_, rfl, _, _, rfl, rfl, ⟨by decide, by decide, by decide⟩, _, _, rfl, rfl, _, rfl, ite2 (fun z4 => ?_) (fun z4 => ?_)⟩
      · refine ⟨_, rfl, _, rfl, hd, _, 2, 2, rfl, rfl, upd_same, rfl, hR _ _ ⟨some (.int c), cs, i + 1, c, _, n, rfl, ⟨upd_same, h1, ?_⟩, fun a u na h => ?_⟩⟩
        · rw [upd_ne h1, upd_ne h1, upd_ne h1]
          exact h2
        · rw [upd_ne na, upd_ne na, upd_ne na]
          exact h
      · refine hR _ _ ⟨some (.int c), cs, i + 1, b, _, n, rfl, ⟨upd_same, h1, ?_⟩, fun a u na h => ?_⟩
        · rw [upd_ne h1, upd_ne h1]
          exact h2
        · rw [upd_ne na, upd_ne na]
          exact h
    · obtain ⟨v2, cs, i, b, st, n, rfl, ⟨h0, h1, h2⟩, hk⟩ := p
      refine ⟨_, rfl, hd, _, 2, _, rfl, rfl, SqL.of h0, atI_nat (j := 2) rfl, _, _, rfl, rfl, _, rfl, ite2 (fun z => ?_) (fun z => ?_)⟩
      · refine ⟨_, rfl, hd, _, 2, _, rfl, rfl, SqL.of h0, atI_nat (j := 2) rfl, .inl ⟨_, rfl, _, rfl, _, _, rfl, rfl, hm, ?_⟩⟩
        refine ⟨_, rfl, hd, _, 2, _, rfl, rfl, SqL.of h0, atI_nat (j := 2) rfl, _, rfl, _, _, rfl, rfl, ⟨hm, hm2⟩, _, rfl, hd, _, 2, 2, rfl, rfl, h0, rfl, _, rfl, k2 _ _ ⟨hH, ⟨cs, i, _, st, n, upd_same, h1, ?_⟩, fun a u na h => ?_⟩⟩
        · rw [upd_ne h1]
          exact h2
        · rw [upd_ne na]
          exact hk a u na h
      · refine ⟨_, rfl, hd, _, 4, _, rfl, rfl, SqL.of h0, atI_nat (j := 4) rfl, _, _, rfl, rfl, _, rfl, hd, _, 4, 4, rfl, rfl, h0, rfl, ?_⟩
        refine ⟨_, rfl, hd, _, 3, _, rfl, rfl, SqL.of upd_same, atI_nat (j := 3) rfl, _, rfl, hd, _, 4, _, rfl, rfl, SqL.of upd_same, atI_nat (j := 4) rfl, _, _, rfl, rfl, .inl ⟨by decide, by decide⟩, _, _, rfl, rfl, .inl ⟨_, rfl, _, _, rfl, rfl, .inr ⟨by decide, by decide⟩, .inl ⟨_, rfl, _, _, rfl, rfl, (by show (0 : Int) < _; decide), ?_⟩⟩⟩
        refine ⟨_, rfl, _, rfl, _, _, rfl, rfl, ⟨by decide, by decide⟩, _, _, rfl, rfl, _, _, rfl, rfl, .inl (m64 _ (by decide) (by decide)), .inl ⟨_, rfl, _, _, rfl, rfl, (by show (0 : Int) < _; decide), ?_⟩⟩
        refine ⟨_, rfl, _, rfl, _, _, rfl, rfl, ⟨by decide, by decide⟩, _, _, rfl, rfl, _, _, rfl, rfl, .inl (m64 _ (by decide) (by decide)), .inl ⟨_, rfl, _, _, rfl, rfl, (by show (0 : Int) < _; decide), ?_⟩⟩
        refine ⟨_, rfl, _, _, rfl, rfl, ⟨by decide, by decide⟩, .inl ⟨_, rfl, _, rfl, _, _, rfl, rfl, hm, k2 _ _ ⟨hH, ⟨cs, i, b, st, _, upd_same, h1, ?_⟩, fun a u na h => ?_⟩⟩⟩
        · rw [upd_ne h1]
          exact h2
        · rw [upd_ne na]
          exact hk a u na h
/-! _law_hand: slots 0=_law_script 1=_law_cells 2=_law_cell -/
def sp_law_hand (K : PySem.W.Frag) : Sp := fun vs H Q _ => ∃ (a : Addr) (ns : List Int), vs = [.ref a] ∧ SqL K H a (ns.map V.int) ∧ ns.length ≤ 100000 ∧ ∀ H' hd ce, Same H H' → Hd H' hd ce → Q (.ref hd) H'
theorem sc_law_hand : FnScope ["_law_script", "_law_cells", "_law_cell"] ["_law_script"] (defScope (top 68)) := ⟨rfl, rfl, rfl, by decide +kernel, rfl, by decide +kernel, by decide +kernel⟩
theorem ok_law_hand {P : Program} {w : World} {K : PySem.W.Frag} {mg : Str → Option Value} {base : Heap} (T : Tx K mg) : Fn P w K mg base "_law_hand" 1 ["_law_script"] (sp_law_hand K) := by
  refine mkFn (k := 0) T.t__law_hand sc_law_hand (fun vs H Q E h => ?_) (fun _ _ _ _ _ _ us hl => match us, hl with | [_], _ => rfl) (fun f cdv A outer s H vs Q E hr h => ?_)
  · obtain ⟨a, ns, rfl, ha, hl, k⟩ := h <;> rfl
  · refine ⟨_, (pss_cons (ps_setLc (i := 1) (own := [("_law_cell", 2)]) (g := (gName 2)) (tt := tYes) rfl sc_law_hand.nd rfl rfl (sw_true rfl rfl rfl (by decide +kernel)) (k_pl (K := K) rfl (pe_slice (k_slL (K := K) rfl) (pv 0) po_none (po_some pe_int))) (blkOk_by (N := ["_law_script", "_law_cells", "_law_cell"]) (sc := defScope (top 68)) (by decide +kernel)) (fun _ _ _ _ _ => (pg_name (i := 2) sc_law_hand.nd rfl (by first | exact Or.inl rfl | exact Or.inr rfl))) (fun _ _ _ _ _ => pts_nil) (fun _ _ _ _ _ => (pe_callB call_abs rfl T.f_abs b_abs (pa_cons (pe_callTy call_int1 rfl T.f_int b_int (pa_cons (pv 2) pa_nil)) pa_nil))))
        (pss_one (ps_ret (pe_lst (pa_cons (pv 1) (pa_cons pe_int (pa_cons pe_int (pa_cons (pe_op op_add pe_int (pe_callB (k_len (K := K) rfl) rfl T.f_len b_len (pa_cons (pv 1) pa_nil))) (pa_cons pe_int pa_nil))))))))), ?_⟩
    obtain ⟨a, ns, rfl, ha, hl, k⟩ := h
    refine ⟨_, rfl, _, rfl, a, _, rfl, ha, fun p np => ?_⟩
    have ec : cutV (ns.map V.int) none (some 63) = (ns.take (min 63 ns.length)).map V.int := by
      unfold cutV
      rw [HT.sIx_none, show (63 : Int) = ((63 : Nat) : Int) from rfl, HT.sIx_nat, List.length_map, List.map_take]
      rfl
    rw [ec]
    have sp := sn (o := .lst ((ns.take (min 63 ns.length)).map V.int)) np
    refine ⟨p, rfl, ⟨_, SqL.of upd_same⟩, lc_map (ns.take (min 63 ns.length)) (fun z => .int (if z < 0 then -z else z)) (walk_listn (by rw [List.length_map])) (by rw [List.length_take]; omega) (fun H' s => SqL.of (s _ _ upd_same)) (fun i z x H1 H2 hz s1 y Qt kk => ?_) (fun D H1 nD s1 hD => ?_)⟩
    · obtain ⟨rfl, hx⟩ := y
      obtain ⟨z2, e1, rfl⟩ := mapI_get hx
      cases Option.some.inj (hz.symm.trans e1)
      exact ⟨rfl, _, rfl, .inl ⟨_, rfl, _, rfl, kk _ (Same.refl _)⟩⟩
    · refine ⟨_, rfl, _, rfl, D, _, rfl, .inl (SqL.of hD), _, _, rfl, rfl, by show 5 ≤ sizeLine; decide, fun q nq => ?_⟩
      have sq := sn (o := .lst [.ref D, .int 0, .int 0, .int (1 + (((ns.take (min 63 ns.length)).map fun z => V.int (if z < 0 then -z else z)).length : Nat)), .int 0]) nq
      refine k _ q D ((sp.trans s1).trans sq) ⟨(ns.take (min 63 ns.length)).map fun z => if z < 0 then -z else z, 0, 0, _, 0, upd_same, ?_, ?_⟩
      · intro e
        rw [e] at hD
        rw [hD] at nq
        cases nq
      · rw [sq _ _ hD, List.map_map]
        rfl
end K20

namespace K20
open PySem PySem.Spec PyProof.Rows L2
section
variable {J : It} {n : Nat} {Gd : Hp → Prop} {Y : Nat → Hp → V → Hp → Prop} {g : TG} {te : TE} {vs : List Nat} {σ : L2.St} {H1 : Hp} {Q : Addr → Hp → Prop} {hd ce : Addr}
/-- a comprehension whose items draw -/
theorem lc_dr (w : Walk J n Gd Y) (S : Nat → List V → Hp → Prop) (hn : n ≤ 100000) (Sup : ∀ i ys H H', Kp H H' → S i ys H → S i ys H') (Sn : ∀ i ys H, S i ys H → ys.length ≤ i) (hH : Hd H1 hd ce) (hG : ∀ H', Dr hd ce H1 H' → Gd H') (h0 : S 0 [] H1)
    (hs : ∀ (i : Nat) (x : V) (ys : List V) (H' H'' : Hp), i < n → Dr hd ce H1 H' → S i ys H' → Y i H' x H'' → ∀ Qt : VK, (∀ y H4, Dr hd ce H' H4 → S (i + 1) (ys ++ [y]) H4 → Qt y H4) →
      g x (wipe σ vs) H'' fun σ2 H2 => wipe σ2 vs = wipe σ vs ∧ te σ2 H2 Qt)
    (hd' : ∀ D ys H', H1 D = none → Dr hd ce H1 H' → H' D = some (.lst ys) → S n ys H' → Q D H') (D : Addr) (hD : H1 D = none) :
    ∃ W : Nat → Nat → Hp → Prop, (∃ m, W 0 m (upd H1 D (.lst []))) ∧ ∀ i m H, W i m H →
      (J.stop i H ∧ Q D H) ∨ (J.go i H ∧ ∃ Nx : Hp → Prop, (∀ H', Nx H' → ∃ m', m' < m ∧ W (i + 1) m' H') ∧ ∀ x H', J.yld i H x H' → g x (wipe σ vs) H' fun σ2 H2 => wipe σ2 vs = wipe σ vs ∧ tYes σ2 H2 fun b H3 =>
        if b = true then te σ2 H3 fun y H4 => ∃ acc, H4 D = some (.lst acc) ∧ acc.length < sizeLine ∧ Nx (upd H4 D (.lst (acc ++ [y]))) else Nx H3) := by
  obtain ⟨nD, _⟩ := hH.ne hD
  refine lc_it w (Qd := fun H => Q D H) (fun i H => ∃ ys, Dr hd ce H1 H ∧ H D = some (.lst ys) ∧ S i ys H) ⟨[], .of hH (sn hD), upd_same, Sup _ _ _ _ (kp (sn hD)) h0⟩ (fun i H _ p => hG H p.choose_spec.1) (fun i x H H' hi p y => ?_) fun H p => ?_
  · obtain ⟨ys, s1, hl, hS⟩ := p
    refine hs i x ys H H' hi s1 hS y _ (fun v H4 s2 q => ?_)
    have l4 := s2.lst nD hl
    refine ⟨ys, l4, ?_, ys ++ [v], (s1.trans s2).mut hD, upd_same, Sup _ _ _ _ (kpL l4) q⟩
    have := Sn _ _ _ hS
    exact lt_line (by omega)
  · obtain ⟨ys, s1, hl, hS⟩ := p
    exact hd' D ys H hD s1 hl hS
end
/-- the sizes of the law -/
def Lw (ss : List (Int × Int)) : Prop := ∀ s ∈ ss, 1 ≤ s.1 ∧ s.1 ≤ 9 ∧ 1 ≤ s.2 ∧ s.2 ≤ 3
theorem kind_at {d : Nat} (h : (d : Int) < 4) : ∃ m : Int, [V.int 1, V.int 3, V.int 5, V.int 9][d]? = some (.int m) ∧ 1 ≤ m ∧ m ≤ 9 := by
  match d, h with
  | 0, _ => exact ⟨1, rfl, by decide, by decide⟩
  | 1, _ => exact ⟨3, rfl, by decide, by decide⟩
  | 2, _ => exact ⟨5, rfl, by decide, by decide⟩
  | 3, _ => exact ⟨9, rfl, by decide, by decide⟩
  | d + 4, h => exact absurd h (by omega)
/-! _law_sizes: slots 0=_law_hand_here 1=_law_most 2=_law_many 3=_law_kind 4=_law_box -/
def sp_law_sizes : Sp := fun vs H Q _ => ∃ (hd ce : Addr) (m : Int), vs = [.ref hd, .int m] ∧ 1 ≤ m ∧ m ≤ 40 ∧ Hd H hd ce ∧ ∀ H' z ss, Dr hd ce H H' → TP H' z ss → 1 ≤ ss.length → (ss.length : Int) ≤ m → Lw ss → Q z H'
theorem sc_law_sizes : FnScope ["_law_hand_here", "_law_most", "_law_many", "_law_kind", "_law_box"] ["_law_hand_here", "_law_most"] (defScope (top 69)) := ⟨rfl, rfl, rfl, by decide +kernel, rfl, by decide +kernel, by decide +kernel⟩
theorem ok_law_sizes {P : Program} {w : World} {K : PySem.W.Frag} {mg : Str → Option Value} {base : Heap} (T : Tx K mg) : Fn P w K mg base "_law_sizes" 2 ["_law_hand_here", "_law_most"] (sp_law_sizes) := by
  refine mkFn (k := 1) T.t__law_sizes sc_law_sizes (fun vs H Q E h => ?_) (fun _ _ _ _ _ _ us hl => match us, hl with | [_, _], _ => rfl) (fun f cdv A outer s H vs Q E hr h => ?_)
  · obtain ⟨hd, ce, m, rfl, hm, hm2, hH, k⟩ := h <;> rfl
  · refine ⟨_, (pss_cons (ps_set (i := 2) sc_law_sizes.nd rfl (by first | exact Or.inl rfl | exact Or.inr rfl) (pe_op op_add pe_int (cl (ok_law_draw T) (hr.mono (by decide)) rfl (pa_cons (pv 0) (pa_cons (pv 1) pa_nil)))))
        (pss_cons (ps_set (i := 3) sc_law_sizes.nd rfl (by first | exact Or.inl rfl | exact Or.inr rfl) (cl (ok_law_draw T) (hr.mono (by decide)) rfl (pa_cons (pv 0) (pa_cons pe_int pa_nil))))
        (pss_one (ps_ret (pe_callTy (k_tuple (K := K) rfl) rfl T.f_tuple b_tuple (pa_cons (pe_lc (own := [("_law_box", 4)]) (g := (gName 4)) (tt := tYes) rfl sc_law_sizes.nd (pi_range1 rfl T.f_range (pa_cons (pv 2) pa_nil)) (blkOk_by (N := ["_law_hand_here", "_law_most", "_law_many", "_law_kind", "_law_box"]) (sc := defScope (top 69)) (by decide +kernel)) (fun _ _ _ _ _ => (pg_name (i := 4) sc_law_sizes.nd rfl (by first | exact Or.inl rfl | exact Or.inr rfl))) (fun _ _ _ _ _ => pts_nil) (fun _ _ _ _ _ => (pe_tup (pa_cons (pe_op op_add pe_int (cl (ok_law_draw T) (hr.mono (by decide)) rfl (pa_cons (pv 0) (pa_cons (pe_ix (k_ixL (K := K) rfl) (pe_lst (pa_cons pe_int (pa_cons pe_int (pa_cons pe_int (pa_cons pe_int pa_nil))))) (pv 3) (fun _ _ => rfl)) pa_nil)))) (pa_cons (pe_op op_add pe_int (cl (ok_law_draw T) (hr.mono (by decide)) rfl (pa_cons (pv 0) (pa_cons pe_int pa_nil)))) pa_nil))))) pa_nil)))))), ?_⟩
    obtain ⟨hd, ce, m, rfl, hm, hm2, hH, k⟩ := h
    refine ⟨_, rfl, _, rfl, hd, ce, m, rfl, by omega, by omega, hH, fun H1 d s1 hdm => ⟨_, _, rfl, rfl, ?_⟩⟩
    refine ⟨_, rfl, hd, ce, 4, rfl, by decide, by decide, s1.b, fun H2 kd s2 hkd => ?_⟩
    obtain ⟨mm, em, m1, m9⟩ := kind_at hkd
    have s12 := s1.trans s2
    refine ⟨_, rfl, (1 + (d : Int)), rfl, by omega, by omega, lc_dr (hd := hd) (ce := ce) (walk_rgk (m := d + 1) (by omega)) (fun i ys H => ∃ ss : List (Int × Int), Paired (fun v (p : Int × Int) => TI H v [p.1, p.2]) ys ss ∧ ss.length = i ∧ Lw ss) (by omega)
      (fun i ys H H' kk ⟨ss, p1, p2, p3⟩ => ⟨ss, prd_imp p1 fun _ _ h => h.up kk, p2, p3⟩) (fun i ys H ⟨ss, p1, p2, p3⟩ => by rw [Paired.length p1]; omega) s2.b (fun _ _ => True.intro) ⟨[], .nil, rfl, fun s hs => by cases hs⟩ (fun i x ys H3 H4 hi s3 hS y Qt kk => ?_) (fun D ys H3 nD s3 hD hS => ?_)⟩
    · obtain ⟨rfl, rfl⟩ := y
      obtain ⟨ss, p1, p2, p3⟩ := hS
      refine ⟨rfl, _, rfl, by show 4 ≤ sizeLine; decide, fun c nc => ?_⟩
      have sc := sn (o := .lst [.int 1, .int 3, .int 5, .int 9]) nc
      have dc := Dr.of s3.b sc
      refine ⟨_, rfl, c, _, (kd : Nat), _, rfl, rfl, SqL.of upd_same, atI_nat em, hd, ce, mm, rfl, by omega, by omega, dc.b, fun H5 d1 s5 h5 => ⟨_, _, rfl, rfl, ?_⟩⟩
      refine ⟨_, rfl, hd, ce, 3, rfl, by decide, by decide, s5.b, fun H6 d2 s6 h6 => ⟨_, _, rfl, rfl, by show 2 ≤ sizeLine; decide, fun r nr => ?_⟩⟩
      have sr := sn (o := .tup [.int (1 + (d1 : Int)), .int (1 + (d2 : Int))]) nr
      have dAll := ((dc.trans s5).trans s6).same sr
      refine kk _ _ dAll ⟨ss ++ [(1 + (d1 : Int), 1 + (d2 : Int))], (prd_imp p1 fun _ _ h => h.up dAll.kp).snoc ⟨r, rfl, upd_same⟩, by rw [List.length_append, List.length_singleton, p2], fun s hs => ?_⟩
      rcases List.mem_append.mp hs with h | h
      · exact p3 s h
      · rw [List.mem_singleton.mp h]
        exact ⟨by show 1 ≤ 1 + (d1 : Int); omega, by show 1 + (d1 : Int) ≤ 9; omega, by show 1 ≤ 1 + (d2 : Int); omega, by show 1 + (d2 : Int) ≤ 3; omega⟩
    · obtain ⟨ss, p1, p2, p3⟩ := hS
      refine ⟨D, ys, rfl, .inl ⟨SqL.of hD, fun r nr => ?_⟩⟩
      have sr := sn (o := .tup ys) nr
      exact k _ _ ss ((s12.trans s3).same sr) ⟨r, ys, rfl, upd_same, prd_imp p1 fun _ _ h => h.up (kp sr)⟩ (by omega) (by omega) p3
theorem sum_bd : ∀ {ss : List (Int × Int)}, Lw ss → 0 ≤ (ss.map (·.1)).sum ∧ (ss.map (·.1)).sum ≤ 9 * ss.length
  | [], _ => ⟨by decide, by decide⟩
  | s :: ss, h => by
    have a := h s List.mem_cons_self
    have b := sum_bd (ss := ss) fun t ht => h t (List.mem_cons_of_mem _ ht)
    rw [List.map_cons, List.sum_cons, List.length_cons]
    omega
/-! _law_width: slots 0=_law_hand_here 1=_law_sizes_here 2=_law_widest 3=_law_width_here 4=_law_height -/
def sp_law_width : Sp := fun vs H Q _ => ∃ (hd ce : Addr) (u : V) (ss : List (Int × Int)), vs = [.ref hd, u] ∧ TP H u ss ∧ 1 ≤ ss.length ∧ ss.length ≤ 40 ∧ Lw ss ∧ Hd H hd ce ∧ ∀ H' (w : Int), Dr hd ce H H' → (∀ s ∈ ss, s.1 ≤ w) → w ≤ 1000 → Q (.int w) H'
theorem sc_law_width : FnScope ["_law_hand_here", "_law_sizes_here", "_law_widest", "_law_width_here", "_law_height"] ["_law_hand_here", "_law_sizes_here"] (defScope (top 70)) := ⟨rfl, rfl, rfl, by decide +kernel, rfl, by decide +kernel, by decide +kernel⟩
theorem ok_law_width {P : Program} {w : World} {K : PySem.W.Frag} {mg : Str → Option Value} {base : Heap} (T : Tx K mg) : Fn P w K mg base "_law_width" 2 ["_law_hand_here", "_law_sizes_here"] (sp_law_width) := by
  refine mkFn (k := 1) T.t__law_width sc_law_width (fun vs H Q E h => ?_) (fun _ _ _ _ _ _ us hl => match us, hl with | [_, _], _ => rfl) (fun f cdv A outer s H vs Q E hr h => ?_)
  · obtain ⟨hd, ce, u, ss, rfl, ⟨ta, tv, rfl, ht, hP⟩, h1, h40, hL, hH, k⟩ := h <;> rfl
  · refine ⟨_, (pss_cons (ps_set (i := 2) sc_law_width.nd rfl (by first | exact Or.inl rfl | exact Or.inr rfl) (pe_callB (k_max (K := K) rfl rfl) rfl T.f_max b_max (pa_cons (pe_lc (own := [("_law_width_here", 3), ("_law_height", 4)]) (g := (gTup K 2 (gCons (gName 3) (gCons (gName 4) gNil)))) (tt := tYes) rfl sc_law_width.nd (k_pt (K := K) rfl (pv 1)) (blkOk_by (N := ["_law_hand_here", "_law_sizes_here", "_law_widest", "_law_width_here", "_law_height"]) (sc := defScope (top 70)) (by decide +kernel)) (fun _ _ _ _ _ => (pg_tup rfl (pgs_cons (pg_name (i := 3) sc_law_width.nd rfl (by first | exact Or.inl rfl | exact Or.inr rfl)) (pgs_cons (pg_name (i := 4) sc_law_width.nd rfl (by first | exact Or.inl rfl | exact Or.inr rfl)) pgs_nil)))) (fun _ _ _ _ _ => pts_nil) (fun _ _ _ _ _ => (pv 3))) pa_nil)))
        (pss_one (ps_ret (pe_op op_add (pv 2) (cl (ok_law_draw T) (hr.mono (by decide)) rfl (pa_cons (pv 0) (pa_cons (pe_op op_add pe_int (pe_callB (k_sum (K := K) rfl rfl) rfl T.f_sum b_sum (pa_cons (pe_lc (own := [("_law_width_here", 3), ("_law_height", 4)]) (g := (gTup K 2 (gCons (gName 3) (gCons (gName 4) gNil)))) (tt := tYes) rfl sc_law_width.nd (k_pt (K := K) rfl (pv 1)) (blkOk_by (N := ["_law_hand_here", "_law_sizes_here", "_law_widest", "_law_width_here", "_law_height"]) (sc := defScope (top 70)) (by decide +kernel)) (fun _ _ _ _ _ => (pg_tup rfl (pgs_cons (pg_name (i := 3) sc_law_width.nd rfl (by first | exact Or.inl rfl | exact Or.inr rfl)) (pgs_cons (pg_name (i := 4) sc_law_width.nd rfl (by first | exact Or.inl rfl | exact Or.inr rfl)) pgs_nil)))) (fun _ _ _ _ _ => pts_nil) (fun _ _ _ _ _ => (pv 3))) pa_nil))) pa_nil))))))), ?_⟩
    obtain ⟨hd, ce, u, ss, rfl, ⟨ta, tv, rfl, ht, hP⟩, h1, h40, hL, hH, k⟩ := h
    have lw := Paired.length hP
    have sb := sum_bd hL
    refine ⟨_, rfl, ta, rfl, ⟨_, SqT.of ht⟩, lc_map ss (fun s => .int s.1) (walk_tupn lw) (by omega) (fun H' s => SqT.of (s _ _ ht)) (fun i z x H1 H2 hz s1 y Qt kk => ?_) (fun D H1 nD s1 hD => ?_)⟩
    · obtain ⟨rfl, hx⟩ := y
      obtain ⟨x', g1, c, rfl, hc⟩ := prd_get hP hz
      cases Option.some.inj (g1.symm.trans hx)
      exact ⟨c, _, rfl, SqT.of (s1 _ _ hc), rfl, _, _, rfl, _, _, rfl, rfl, rfl, _, rfl, kk _ (Same.refl _)⟩
    refine ⟨D, ss.map (fun s => s.1), rfl, SqL.of (by rw [hD, List.map_map]; rfl), by rw [List.length_map]; exact h1, fun m hm hmx => ?_⟩
    refine ⟨_, rfl, _, rfl, _, rfl, ta, rfl, ⟨_, SqT.of (s1 _ _ ht)⟩, lc_map ss (fun s => .int s.1) (walk_tupn lw) (by omega) (fun H' s => SqT.of (s _ _ (s1 _ _ ht))) (fun i z x H1 H2 hz s2 y Qt kk => ?_) (fun D H2 nD s2 hD => ?_)⟩
    · obtain ⟨rfl, hx⟩ := y
      obtain ⟨x', g1, c, rfl, hc⟩ := prd_get hP hz
      cases Option.some.inj (g1.symm.trans hx)
      exact ⟨c, _, rfl, SqT.of (s2 _ _ (s1 _ _ hc)), rfl, _, _, rfl, _, _, rfl, rfl, rfl, _, rfl, kk _ (Same.refl _)⟩
    have s12 := s1.trans s2
    refine ⟨D, ss.map (fun s => s.1), rfl, SqL.of (by rw [hD, List.map_map]; rfl), _, _, rfl, rfl, hd, ce, _, rfl, by omega, by omega, hH.up s12, fun H3 d s3 hdm => ⟨_, _, rfl, rfl, k H3 _ ((Dr.of hH s12).trans s3) (fun s hs => ?_) ?_⟩⟩
    · have := hmx s.1 (List.mem_map_of_mem hs)
      show s.1 ≤ m + (d : Int)
      omega
    · obtain ⟨s, hs, e⟩ := List.mem_map.mp hm
      have := (hL s hs).2.1
      show m + (d : Int) ≤ 1000
      omega
end K20

namespace K20
open PySem PySem.Spec PyProof.Rows L2
theorem perm_erase : ∀ {xs : List V} {k : Nat} {y : V}, xs[k]? = some y → (y :: xs.eraseIdx k).Perm xs
  | [], _, _, h => by cases h
  | x :: xs, 0, y, h => by
    cases Option.some.inj h
    exact .refl _
  | x :: xs, k + 1, y, h => (List.Perm.swap x y _).trans (List.Perm.cons x (perm_erase (k := k) h))
/-! _law_shuffled: slots 0=_law_hand_here 1=_law_things 2=_law_left 3=_law_found -/
def sp_law_shuffled : Sp := fun vs H Q _ => ∃ (hd ce la : Addr) (xs : List V), vs = [.ref hd, .ref la] ∧ H la = some (.lst xs) ∧ xs.length ≤ 40 ∧ Hd H hd ce ∧ ∀ H' F ys, Dr hd ce H H' → H' F = some (.lst ys) → F ≠ hd → ys.Perm xs → Q (.ref F) H'
theorem sc_law_shuffled : FnScope ["_law_hand_here", "_law_things", "_law_left", "_law_found"] ["_law_hand_here", "_law_things"] (defScope (top 71)) := ⟨rfl, rfl, rfl, by decide +kernel, rfl, by decide +kernel, by decide +kernel⟩
theorem ok_law_shuffled {P : Program} {w : World} {K : PySem.W.Frag} {mg : Str → Option Value} {base : Heap} (T : Tx K mg) : Fn P w K mg base "_law_shuffled" 2 ["_law_hand_here", "_law_things"] (sp_law_shuffled) := by
  refine mkFn (k := 1) T.t__law_shuffled sc_law_shuffled (fun vs H Q E h => ?_) (fun _ _ _ _ _ _ us hl => match us, hl with | [_, _], _ => rfl) (fun f cdv A outer s H vs Q E hr h => ?_)
  · obtain ⟨hd, ce, la, xs, rfl, hl, h40, hH, k⟩ := h <;> rfl
  · refine ⟨_, (pss_cons (ps_set (i := 2) sc_law_shuffled.nd rfl (by first | exact Or.inl rfl | exact Or.inr rfl) (pe_callTy (k_list (K := K) rfl) rfl T.f_list b_list (pa_cons (pv 1) pa_nil)))
        (pss_cons (ps_set (i := 3) sc_law_shuffled.nd rfl (by first | exact Or.inl rfl | exact Or.inr rfl) (pe_lst pa_nil))
        (pss_cons (ps_while PassesOwn.never (pt_cmpR op_gt (pe_callB (k_len (K := K) rfl) rfl T.f_len b_len (pa_cons (pv 2) pa_nil)) pe_int (nomark _)) (pss_one (ps_expr (k_bm (K := K) rfl PySem.F.plainAttrs_list PySem.F.slot_list_append PySem.F.type_list_append mt_append (pv 3) (pa_cons (k_bm (K := K) rfl PySem.F.plainAttrs_list PySem.F.slot_list_pop PySem.F.type_list_pop mt_popAt (pv 2) (pa_cons (cl (ok_law_draw T) (hr.mono (by decide)) rfl (pa_cons (pv 0) (pa_cons (pe_callB (k_len (K := K) rfl) rfl T.f_len b_len (pa_cons (pv 2) pa_nil)) pa_nil))) pa_nil)) pa_nil)))))
        (pss_one (ps_ret (pv 3)))))), ?_⟩
    obtain ⟨hd, ce, la, xs, rfl, hl, h40, hH, k⟩ := h
    refine ⟨_, rfl, la, xs, rfl, .inl (SqL.of hl), fun p np => ?_⟩
    have sp := sn (o := .lst xs) np
    refine ⟨Nat.zero_le _, fun F nF => ?_⟩
    have sF := sn (o := .lst []) nF
    have nF0 := nof sp nF
    have npF : p ≠ F := fun e => by
      rw [← e, upd_same] at nF
      cases nF
    obtain ⟨p1, p2⟩ := hH.ne np
    obtain ⟨F1, F2⟩ := hH.ne nF0
    refine while_by (fun σ H' => σ = [some (.ref hd), some (.ref la), some (.ref p), some (.ref F)] ∧ Dr hd ce H H' ∧ ∃ ls fs, H' p = some (.lst ls) ∧ H' F = some (.lst fs) ∧ (fs ++ ls).Perm xs)
      (fun _ H' => match H' p with | some (.lst ls) => ls.length | _ => 0) ⟨rfl, (Dr.of hH sp).same sF, xs, [], sF _ _ upd_same, upd_same, by exact List.Perm.refl _⟩ (fun σ H1 pv => ?_) (fun σ H1 Q1 Q2 m h => ?_)
    · obtain ⟨rfl, d1, ls, fs, hp, hF, hperm⟩ := pv
      have hlen := hperm.length_eq
      rw [List.length_append] at hlen
      refine ⟨_, rfl, p, _, rfl, .inl (SqL.of hp), _, _, rfl, rfl, _, rfl, ite2 (fun z => ?_) (fun z => ?_)⟩
      · have z2 : (0 : Int) < (ls.length : Nat) := of_decide_eq_true z
        refine ⟨_, rfl, .inl ⟨rfl, _, SqL.of hF⟩, _, rfl, .inl ⟨rfl, _, SqL.of hp⟩, _, rfl, _, rfl, p, _, rfl, .inl (SqL.of hp), hd, ce, _, rfl, z2, by omega, d1.b, fun H2 d s2 hdm => ?_⟩
        obtain ⟨y, hy⟩ := at_lt (l := ls) (i := d) (by omega)
        have hp2 := s2.lst p1 hp
        have hF2 := s2.lst F1 hF
        refine ⟨p, ls, (d : Nat), d, y, rfl, rfl, hp2, by omega, by omega, (ixN_seq (ixN_nat (by omega))).1, hy, F, fs, y, rfl, rfl, by rw [upd_ne (Ne.symm npF)]; exact hF2, lt_line (by omega), ⟨rfl, ((d1.trans s2).mut np).mut nF0, ls.eraseIdx d, fs ++ [y], by rw [upd_ne npF, upd_same], upd_same, ?_⟩, ?_⟩
        · refine List.Perm.trans ?_ hperm
          rw [List.append_assoc]
          exact List.Perm.append_left fs (perm_erase hy)
        · show (match (upd (upd H2 p (.lst (ls.eraseIdx d))) F (.lst (fs ++ [y]))) p with | some (.lst ls) => ls.length | _ => 0) < (match H1 p with | some (.lst ls) => ls.length | _ => 0)
          rw [upd_ne npF, upd_same, hp]
          show (ls.eraseIdx d).length < ls.length
          rw [List.length_eraseIdx]
          split <;> omega
      · have z2 : ¬ (0 : Int) < (ls.length : Nat) := fun h => z (decide_eq_true h)
        have e0 : ls = [] := List.length_eq_zero_iff.mp (by omega)
        subst e0
        rw [List.append_nil] at hperm
        exact ⟨_, rfl, k H1 F fs d1 hF F1 hperm⟩
    · obtain ⟨v, h1, q, ys, h2, h3, i, j, h4, h5, b, h6, h7⟩ := h
      exact ⟨v, h1, q, ys, h2, h3, i, j, h4, h5, b, h6, m _ _ h7⟩
theorem gset {i : Nat} {x : V} {σ : L2.St} {H : Hp} {Q : L2.St → Hp → Prop} (h : Q (σ.set i (some x)) H) : gName i x σ H Q := h
theorem rgV_NI (n : Nat) : rgV 0 (n : Nat) = (NI (List.range n)).map V.int := by
  unfold rgV NI
  rw [List.map_map, show ((n : Int) - 0).toNat = n by omega]
  refine List.map_congr_left fun i _ => ?_
  show V.int (0 + (i : Nat)) = V.int (i : Nat)
  rw [Int.zero_add]
def toN : V → Nat
  | .int i => i.toNat
  | _ => 0
theorem ord_of {ys : List V} {n : Nat} (h : ys.Perm ((NI (List.range n)).map V.int)) : ∃ l, ys = (NI l).map V.int ∧ Ord n l := by
  have e : ∀ l : List Nat, ((NI l).map V.int).map toN = l := fun l => by
    unfold NI
    rw [List.map_map, List.map_map]
    exact List.map_id l
  refine ⟨ys.map toN, ?_, ?_⟩
  · unfold NI
    rw [List.map_map, List.map_map]
    refine (List.map_id ys).symm.trans (List.map_congr_left fun y hy => ?_)
    obtain ⟨i, hi, rfl⟩ := List.mem_map.mp (h.mem_iff.mp hy)
    obtain ⟨j, _, rfl⟩ := List.mem_map.mp hi
    rfl
  · unfold Ord
    have q := h.map toN
    rw [e] at q
    exact q
theorem cut_perm {xs : List V} {a b : Nat} (hab : a ≤ b) : ((cutV xs none (some (a : Nat)) ++ (cutV xs (some (a : Nat)) (some (b : Nat))).reverse) ++ cutV xs (some (b : Nat)) none).Perm xs := by
  unfold cutV
  rw [HT.sIx_none, HT.sIx_none, HT.sIx_nat, HT.sIx_nat, Nat.sub_zero, List.drop_zero]
  have e1 : xs = (xs.take (min a xs.length) ++ (xs.drop (min a xs.length)).take (min b xs.length - min a xs.length)) ++ (xs.drop (min b xs.length)).take (xs.length - min b xs.length) := by
    have l2 : (xs.drop (min b xs.length)).take (xs.length - min b xs.length) = xs.drop (min b xs.length) := List.take_of_length_le (by rw [List.length_drop]; omega)
    rw [l2, ← List.take_add, show min a xs.length + (min b xs.length - min a xs.length) = min b xs.length by omega, List.take_append_drop]
  have e2 := List.Perm.append_right ((xs.drop (min b xs.length)).take (xs.length - min b xs.length)) (List.Perm.append_left (xs.take (min a xs.length)) (List.reverse_perm ((xs.drop (min a xs.length)).take (min b xs.length - min a xs.length))))
  rw [← e1] at e2
  exact e2
/-! _law_order: slots 0=_law_hand_here 1=_law_many 2=_law_kind 3=_law_found 4=_law_turn 5=_law_at -/
def sp_law_order : Sp := fun vs H Q _ => ∃ (hd ce : Addr) (n : Nat), vs = [.ref hd, .int (n : Nat)] ∧ 1 ≤ n ∧ n ≤ 40 ∧ Hd H hd ce ∧ ∀ H' a l, Dr hd ce H H' → H a = none → Zt H' a ((NI l).map V.int) → Ord n l → Q (.ref a) H'
theorem sc_law_order : FnScope ["_law_hand_here", "_law_many", "_law_kind", "_law_found", "_law_turn", "_law_at"] ["_law_hand_here", "_law_many"] (defScope (top 72)) := ⟨rfl, rfl, rfl, by decide +kernel, rfl, by decide +kernel, by decide +kernel⟩
theorem ok_law_order {P : Program} {w : World} {K : PySem.W.Frag} {mg : Str → Option Value} {base : Heap} (T : Tx K mg) : Fn P w K mg base "_law_order" 3 ["_law_hand_here", "_law_many"] (sp_law_order) := by
  refine mkFn (k := 2) T.t__law_order sc_law_order (fun vs H Q E h => ?_) (fun _ _ _ _ _ _ us hl => match us, hl with | [_, _], _ => rfl) (fun f cdv A outer s H vs Q E hr h => ?_)
  · obtain ⟨hd, ce, n, rfl, h1, h40, hH, k⟩ := h <;> rfl
  · refine ⟨_, (pss_cons (ps_set (i := 2) sc_law_order.nd rfl (by first | exact Or.inl rfl | exact Or.inr rfl) (cl (ok_law_draw T) (hr.mono (by decide)) rfl (pa_cons (pv 0) (pa_cons pe_int pa_nil))))
        (pss_cons (ps_set (i := 3) sc_law_order.nd rfl (by first | exact Or.inl rfl | exact Or.inr rfl) (cl (ok_law_shuffled T) (hr.mono (by decide)) rfl (pa_cons (pv 0) (pa_cons (pe_listRg rfl rfl T.f_list (prg_1 rfl T.f_range (pv 1))) pa_nil))))
        (pss_cons (ps_if (pt_cmpR op_eq (pv 2) pe_int (nomark _)) (pss_cons (ps_set (i := 3) sc_law_order.nd rfl (by first | exact Or.inl rfl | exact Or.inr rfl) (pe_listRg rfl rfl T.f_list (prg_1 rfl T.f_range (pv 1))))
        (pss_one (ps_for PassesOwn.never rfl (pi_range1 rfl T.f_range (pa_cons (cl (ok_law_draw T) (hr.mono (by decide)) rfl (pa_cons (pv 0) (pa_cons pe_int pa_nil))) pa_nil)) (pg_name (i := 4) sc_law_order.nd rfl (by first | exact Or.inl rfl | exact Or.inr rfl)) (pss_cons (ps_set (i := 5) sc_law_order.nd rfl (by first | exact Or.inl rfl | exact Or.inr rfl) (cl (ok_law_draw T) (hr.mono (by decide)) rfl (pa_cons (pv 0) (pa_cons (pv 1) pa_nil))))
        (pss_one (ps_set (i := 3) sc_law_order.nd rfl (by first | exact Or.inl rfl | exact Or.inr rfl) (pe_op op_cat (pe_op op_cat (pe_slice (k_slL (K := K) rfl) (pv 3) po_none (po_some (pv 5))) (k_revL (K := K) rfl (pe_slice (k_slL (K := K) rfl) (pv 3) (po_some (pv 5)) (po_some (pe_op op_add (pv 5) pe_int))))) (pe_slice (k_slL (K := K) rfl) (pv 3) (po_some (pe_op op_add (pv 5) pe_int)) po_none)))))))) pss_nil)
        (pss_cons (ps_if (pt_cmpR op_eq (pv 2) pe_int (nomark _)) (pss_one (ps_set (i := 3) sc_law_order.nd rfl (by first | exact Or.inl rfl | exact Or.inr rfl) (k_revL (K := K) rfl (pe_listRg rfl rfl T.f_list (prg_1 rfl T.f_range (pv 1)))))) pss_nil)
        (pss_one (ps_ret (pe_callTy (k_tupZ (K := K) rfl) rfl T.f_tuple b_tuple (pa_cons (pv 3) pa_nil)))))))), ?_⟩
    obtain ⟨hd, ce, n, rfl, h1, h40, hH, k⟩ := h
    have rgo : RgOk 0 (n : Nat) := RgOk.of_le (by omega) (by omega) (by omega) (by omega)
    refine ⟨_, rfl, hd, ce, 5, rfl, by decide, by decide, hH, fun H1 kd s1 hkd => ?_⟩
    refine ⟨_, rfl, _, rfl, (n : Nat), rfl, rgo, fun q nq => ?_⟩
    have sq := sn (o := .lst (rgV 0 (n : Nat))) nq
    have d1 := s1.same sq
    refine ⟨hd, ce, q, _, rfl, upd_same, by rw [rgV_length]; omega, d1.b, fun H2 F ys s2 hF nF hperm => ?_⟩
    have d2 := d1.trans s2
    rw [rgV_NI] at hperm
    refine gset ?_
    dsimp only
    refine seq_via (tA := tIfS _ _ _) (fun σ' H' => ∃ v4 v5 F ys, σ' = [some (.ref hd), some (.int (n : Nat)), some (.int (kd : Nat)), some (.ref F), v4, v5] ∧ Dr hd ce H H' ∧ H' F = some (.lst ys) ∧ ys.Perm ((NI (List.range n)).map V.int)) (fun R hR => ?_) (fun σ' H' p => ?_)
    · refine ⟨_, rfl, rfl, _, rfl, ite2 (fun z => ?_) (fun z => hR _ _ ⟨none, none, F, ys, rfl, d2, hF, hperm⟩)⟩
      refine ⟨_, rfl, (n : Nat), rfl, rgo, fun q2 nq2 => ?_⟩
      have sq2 := sn (o := .lst (rgV 0 (n : Nat))) nq2
      have d3 := d2.same sq2
      refine ⟨_, rfl, hd, ce, 3, rfl, by decide, by decide, d3.b, fun H3 m s3 hm => ?_⟩
      have nq3 := (d3.a.ne (d2.nof nq2)).1
      refine ⟨(m : Nat), rfl, by omega, by omega, for_it (walk_rgk (m := m) (by omega)) (fun i σ H' => ∃ v4 v5 F ys, σ = [some (.ref hd), some (.int (n : Nat)), some (.int (kd : Nat)), some (.ref F), v4, v5] ∧ Dr hd ce H H' ∧ H' F = some (.lst ys) ∧ F ≠ hd ∧ ys.Perm ((NI (List.range n)).map V.int))
        ⟨none, none, q2, _, rfl, d3.trans s3, s3.lst nq3 upd_same, nq3, by rw [rgV_NI]⟩ (fun _ _ _ _ _ => True.intro) (fun i x σ H4 H5 hi p y => ?_) (fun σ H4 p => ?_)⟩
      · obtain ⟨v4, v5, F, ys, rfl, d4, hF, nF, hperm⟩ := p
        obtain ⟨rfl, rfl⟩ := y
        refine ⟨_, rfl, _, rfl, hd, ce, (n : Nat), rfl, by omega, by omega, d4.b, fun H6 a s6 ha => ?_⟩
        have hF6 := s6.lst nF hF
        have d6 := d4.trans s6
        refine ⟨_, rfl, _, rfl, _, rfl, F, ys, rfl, SqL.of hF6, fun c1 n1 => ?_⟩
        have t1 := sn (o := .lst (cutV ys none (some (a : Nat)))) n1
        refine ⟨_, rfl, _, rfl, _, rfl, _, rfl, _, _, rfl, rfl, _, rfl, F, ys, rfl, SqL.of (t1 _ _ hF6), fun c2 n2 => ?_⟩
        have t2 := sn (o := .lst (cutV ys (some (a : Nat)) (some ((a + 2 : Nat) : Int)))) n2
        refine ⟨c2, _, rfl, SqL.of upd_same, fun c3 n3 => ?_⟩
        have t3 := sn (o := .lst (cutV ys (some (a : Nat)) (some ((a + 2 : Nat) : Int))).reverse) n3
        refine ⟨c1, c3, _, _, rfl, rfl, t3 _ _ (t2 _ _ upd_same), upd_same, ?_, fun c4 n4 => ?_⟩
        · have a1 := cutV_length ys none (some (a : Nat))
          have a2 := cutV_length ys (some (a : Nat)) (some ((a + 2 : Nat) : Int))
          have a3 := hperm.length_eq
          rw [NI_vlen, List.length_range] at a3
          have := sizeLine_eq
          rw [List.length_reverse]
          show (cutV ys none (some (a : Nat))).length + (cutV ys (some (a : Nat)) (some ((a + 2 : Nat) : Int))).length ≤ sizeLine
          omega
        have t4 := sn (o := .lst (cutV ys none (some (a : Nat)) ++ (cutV ys (some (a : Nat)) (some ((a + 2 : Nat) : Int))).reverse)) n4
        refine ⟨_, rfl, _, rfl, _, _, rfl, rfl, _, rfl, F, ys, rfl, SqL.of (t4 _ _ (t3 _ _ (t2 _ _ (t1 _ _ hF6)))), fun c5 n5 => ?_⟩
        have t5 := sn (o := .lst (cutV ys (some ((a + 2 : Nat) : Int)) none)) n5
        refine ⟨c4, c5, _, _, rfl, rfl, t5 _ _ upd_same, upd_same, ?_, fun c6 n6 => ?_⟩
        · have a4 := (cut_perm (xs := ys) (a := a) (b := a + 2) (by omega)).length_eq
          rw [List.length_append] at a4
          have a3 := hperm.length_eq
          rw [NI_vlen, List.length_range] at a3
          have := sizeLine_eq
          show (cutV ys none (some (a : Nat)) ++ (cutV ys (some (a : Nat)) (some ((a + 2 : Nat) : Int))).reverse).length + (cutV ys (some ((a + 2 : Nat) : Int)) none).length ≤ sizeLine
          omega
        have t6 := sn (o := .lst ((cutV ys none (some (a : Nat)) ++ (cutV ys (some (a : Nat)) (some ((a + 2 : Nat) : Int))).reverse) ++ cutV ys (some ((a + 2 : Nat) : Int)) none)) n6
        have d7 := ((((d6.same t1).same t2).same t3).same t4).same t5
        exact ⟨_, _, c6, _, rfl, d7.same t6, upd_same, (hH.ne (d7.nof n6)).1, (cut_perm (by omega)).trans hperm⟩
      · obtain ⟨v4, v5, F, ys, rfl, d4, hF, _, hperm⟩ := p
        exact hR _ _ ⟨v4, v5, F, ys, rfl, d4, hF, hperm⟩
    refine seq_via (tA := tIfS _ _ _) (fun σ' H' => ∃ v4 v5 F ys, σ' = [some (.ref hd), some (.int (n : Nat)), some (.int (kd : Nat)), some (.ref F), v4, v5] ∧ Dr hd ce H H' ∧ H' F = some (.lst ys) ∧ ys.Perm ((NI (List.range n)).map V.int)) (fun R hR => ?_) (fun σ' H' p => ?_)
    · obtain ⟨v4, v5, F, ys, rfl, d4, hF, hperm⟩ := p
      refine ⟨_, rfl, rfl, _, rfl, ite2 (fun z => ?_) (fun z => hR _ _ ⟨v4, v5, F, ys, rfl, d4, hF, hperm⟩)⟩
      refine ⟨_, rfl, (n : Nat), rfl, rgo, fun q2 nq2 => ?_⟩
      have sq2 := sn (o := .lst (rgV 0 (n : Nat))) nq2
      refine ⟨q2, _, rfl, SqL.of upd_same, fun q3 nq3 => ?_⟩
      have sq3 := sn (o := .lst (rgV 0 (n : Nat)).reverse) nq3
      exact hR _ _ ⟨v4, v5, q3, _, rfl, (d4.same sq2).same sq3, upd_same, by rw [rgV_NI]; exact List.reverse_perm _⟩
    · obtain ⟨v4, v5, F, ys, rfl, d4, hF, hperm⟩ := p
      obtain ⟨l, rfl, ho⟩ := ord_of hperm
      refine ⟨_, rfl, F, _, rfl, SqL.of hF, fun r o ho2 nr => ?_⟩
      exact k _ r l (d4.same (sn nr)) (d4.nof nr) ⟨o, upd_same, ho2⟩ ho
end K20

namespace K20
open PySem PySem.Spec PyProof.Rows L2
theorem idx_rd {l : List Nat} {x : Nat} (hn : l.Nodup) (hx : x ∈ l) : (NI l)[pos l x]? = some (x : Int) ∧ ∀ m, m < pos l x → (NI l)[m]? ≠ some (x : Int) := by
  refine ⟨NI_get (at_pos hx), fun m hm e => ?_⟩
  unfold NI at e
  rw [List.getElem?_map] at e
  cases e2 : l[m]? with
  | none => rw [e2] at e; cases e
  | some y =>
    rw [e2] at e
    have : y = x := Int.ofNat.inj (Option.some.inj e)
    rw [this] at e2
    exact pos_first hn hx hm e2
/-- a turned pair, by its numbers -/
def Trn (n : Nat) (one other : List Nat) (i j : Nat) : Prop := i < j ∧ j < n ∧ decide (pos one i < pos one j) ≠ decide (pos other i < pos other j)
theorem trn_tw {n : Nat} {one other : List Nat} (ho : Ord n one) (ho2 : Ord n other) {i j : Nat} (hij : i < j) (hj : j < n) : Trn n one other i j ↔ tw one other i j ∨ tw one other j i := by
  have a : pos one i ≠ pos one j := fun e => by
    have := pos_inj (ho.mem (by omega)) (ho.mem hj) e
    omega
  have b : pos other i ≠ pos other j := fun e => by
    have := pos_inj (ho2.mem (by omega)) (ho2.mem hj) e
    omega
  unfold Trn tw
  by_cases c1 : pos one i < pos one j
  · by_cases c2 : pos other i < pos other j
    · rw [decide_eq_true c1, decide_eq_true c2]
      constructor
      · intro h
        exact absurd rfl h.2.2
      · rintro (h | h) <;> omega
    · rw [decide_eq_true c1, decide_eq_false c2]
      constructor
      · intro _
        exact .inl ⟨c1, by omega⟩
      · intro _
        exact ⟨hij, hj, by decide⟩
  · by_cases c2 : pos other i < pos other j
    · rw [decide_eq_false c1, decide_eq_true c2]
      constructor
      · intro _
        exact .inr ⟨by omega, c2⟩
      · intro _
        exact ⟨hij, hj, by decide⟩
    · rw [decide_eq_false c1, decide_eq_false c2]
      constructor
      · intro h
        exact absurd rfl h.2.2
      · rintro (h | h) <;> omega
/-- the pairs found ahead of (i, j) -/
def TrInv (H : Hp) (D : Addr) (n : Nat) (one other : List Nat) (i j m : Nat) (H' : Hp) : Prop := Same H H' ∧ ∃ vs zs, LP H' D vs zs ∧ zs.length ≤ m ∧ ∀ z : Nat × Nat, z ∈ zs ↔ Trn n one other z.1 z.2 ∧ (z.1 < i ∨ (z.1 = i ∧ z.2 < j))
/-! _law_turned: slots 0=_law_one 1=_law_other 2=_law_found 3=_law_first 4=_law_later -/
def sp_law_turned : Sp := fun vs H Q _ => ∃ (la ua : Addr) (n : Nat) (one other : List Nat), vs = [.ref la, .ref ua] ∧ Zt H la ((NI one).map V.int) ∧ Zt H ua ((NI other).map V.int) ∧ Ord n one ∧ Ord n other ∧ n ≤ 40 ∧
  ∀ H' D ws zs, Same H H' → LP H' D ws zs → zs.length ≤ 2000 → (∀ z : Nat × Nat, z ∈ zs ↔ Trn n one other z.1 z.2) → Q (.ref D) H'
theorem sc_law_turned : FnScope ["_law_one", "_law_other", "_law_found", "_law_first", "_law_later"] ["_law_one", "_law_other"] (defScope (top 73)) := ⟨rfl, rfl, rfl, by decide +kernel, rfl, by decide +kernel, by decide +kernel⟩
theorem ok_law_turned {P : Program} {w : World} {K : PySem.W.Frag} {mg : Str → Option Value} {base : Heap} (T : Tx K mg) : Fn P w K mg base "_law_turned" 1 ["_law_one", "_law_other"] (sp_law_turned) := by
  refine mkFn (k := 0) T.t__law_turned sc_law_turned (fun vs H Q E h => ?_) (fun _ _ _ _ _ _ us hl => match us, hl with | [_, _], _ => rfl) (fun f cdv A outer s H vs Q E hr h => ?_)
  · obtain ⟨la, ua, n, one, other, rfl, hl, hu, ho, ho2, h40, k⟩ := h <;> rfl
  · refine ⟨_, (pss_cons (ps_set (i := 2) sc_law_turned.nd rfl (by first | exact Or.inl rfl | exact Or.inr rfl) (pe_lst pa_nil))
        (pss_cons (ps_for PassesOwn.never rfl (pi_range1 rfl T.f_range (pa_cons (pe_callB (k_len (K := K) rfl) rfl T.f_len b_len (pa_cons (pv 0) pa_nil)) pa_nil)) (pg_name (i := 3) sc_law_turned.nd rfl (by first | exact Or.inl rfl | exact Or.inr rfl)) (pss_one (ps_for PassesOwn.never rfl (pi_range2 rfl T.f_range (pa_cons (pe_op op_add (pv 3) pe_int) (pa_cons (pe_callB (k_len (K := K) rfl) rfl T.f_len b_len (pa_cons (pv 0) pa_nil)) pa_nil))) (pg_name (i := 4) sc_law_turned.nd rfl (by first | exact Or.inl rfl | exact Or.inr rfl)) (pss_one (ps_if (pt_cmpR op_ne (pe_cmpR op_lt (pe_bmZ PySem.F.plainAttrs_tuple PySem.F.slot_tuple_index PySem.F.type_tuple_index (k_idx (K := K) rfl) (pv 0) (pa_cons (pv 3) pa_nil)) (pe_bmZ PySem.F.plainAttrs_tuple PySem.F.slot_tuple_index PySem.F.type_tuple_index (k_idx (K := K) rfl) (pv 0) (pa_cons (pv 4) pa_nil)) (nomark _)) (pe_cmpR op_lt (pe_bmZ PySem.F.plainAttrs_tuple PySem.F.slot_tuple_index PySem.F.type_tuple_index (k_idx (K := K) rfl) (pv 1) (pa_cons (pv 3) pa_nil)) (pe_bmZ PySem.F.plainAttrs_tuple PySem.F.slot_tuple_index PySem.F.type_tuple_index (k_idx (K := K) rfl) (pv 1) (pa_cons (pv 4) pa_nil)) (nomark _)) (nomark _)) (pss_one (ps_expr (k_bm (K := K) rfl PySem.F.plainAttrs_list PySem.F.slot_list_append PySem.F.type_list_append mt_append (pv 2) (pa_cons (pe_tup (pa_cons (pv 3) (pa_cons (pv 4) pa_nil))) pa_nil)))) pss_nil)))))
        (pss_one (ps_ret (pv 2))))), ?_⟩
    obtain ⟨la, ua, n, one, other, rfl, hl, hu, ho, ho2, h40, k⟩ := h
    have ll := ho.len
    refine ⟨Nat.zero_le _, fun D nD => ?_⟩
    have s0 := sn (o := .lst []) nD
    refine ⟨_, rfl, la, _, rfl, .inr (hl.up s0).sq, _, rfl, by rw [NI_vlen]; omega, by rw [NI_vlen]; omega, for_it (walk_rgk (m := n) (by rw [NI_vlen]; omega)) (fun i σ H' => ∃ v3 v4, σ = [some (.ref la), some (.ref ua), some (.ref D), v3, v4] ∧ TrInv H D n one other i 0 (i * n) H')
      ⟨none, none, rfl, s0, [], [], ⟨upd_same, .nil⟩, Nat.zero_le _, fun z => ⟨fun h => (by cases h), fun h => by omega⟩⟩ (fun _ _ _ _ _ => True.intro) (fun i x σ H1 H2 hi p y => ?_) (fun σ H1 p => ?_)⟩
    · obtain ⟨v3, v4, rfl, iv⟩ := p
      obtain ⟨rfl, rfl⟩ := y
      have bound : (i + 1) * n ≤ 1600 := Nat.le_trans (Nat.mul_le_mul (show i + 1 ≤ 40 by omega) h40) (by decide)
      have e1 : (i + 1) * n = i * n + n := Nat.succ_mul _ _
      refine ⟨_, rfl, _, _, rfl, rfl, _, rfl, la, _, rfl, .inr (hl.up iv.1).sq, ((i + 1 : Nat) : Int), n, by rw [NI_vlen, ll]; rfl, ⟨by omega, by omega, by omega, by omega⟩, ?_⟩
      refine for_it walk_r2 (fun m σ H' => ∃ v4, σ = [some (.ref la), some (.ref ua), some (.ref D), some (.int (i : Nat)), v4] ∧ TrInv H D n one other i (i + 1 + m) (i * n + m) H')
        ⟨v4, rfl, iv.1, ?_⟩ (fun _ _ _ _ _ => True.intro) (fun m x σ H3 H4 hm p y => ?_) (fun σ H3 p => ?_)
      · obtain ⟨_, vs, zs, q1, q2, q3⟩ := iv
        refine ⟨vs, zs, q1, q2, fun z => ?_⟩
        rw [q3]
        unfold Trn
        constructor
        · rintro ⟨a, b⟩
          exact ⟨a, by omega⟩
        · rintro ⟨a, b⟩
          refine ⟨a, ?_⟩
          rcases b with b | ⟨b1, b2⟩
          · exact .inl b
          · have := a.1
            omega
      · obtain ⟨v4, rfl, jv⟩ := p
        obtain ⟨rfl, rfl⟩ := y
        rw [List.length_range'] at hm
        have hj : i + 1 + m < n := by omega
        have hin : i < n := by omega
        obtain ⟨s3, vs, zs, q1, q2, q3⟩ := jv
        have i1 := idx_rd ho.nd (ho.mem hin)
        have i2 := idx_rd ho.nd (ho.mem hj)
        have j1 := idx_rd ho2.nd (ho2.mem hin)
        have j2 := idx_rd ho2.nd (ho2.mem hj)
        have zl := hl.up s3
        have zu := hu.up s3
        have tl := zl.sq (K := K)
        have tu := zu.sq (K := K)
        refine ⟨_, rfl, ⟨la, _, rfl, zl⟩, _, rfl, la, NI one, _, pos one i, rfl, rfl, tl, i1.1, i1.2, ?_⟩
        refine ⟨_, rfl, ⟨la, _, rfl, zl⟩, _, rfl, la, NI one, _, pos one (i + 1 + m), rfl, rfl, tl, i2.1, i2.2, _, _, rfl, rfl, ?_⟩
        refine ⟨_, rfl, ⟨ua, _, rfl, zu⟩, _, rfl, ua, NI other, _, pos other i, rfl, rfl, tu, j1.1, j1.2, ?_⟩
        refine ⟨_, rfl, ⟨ua, _, rfl, zu⟩, _, rfl, ua, NI other, _, pos other (i + 1 + m), rfl, rfl, tu, j2.1, j2.2, _, _, rfl, rfl, rfl, _, rfl, ?_⟩
        have ed : ∀ {p q r s : Nat}, (!decide (V.bl (decide ((p : Int) < (q : Int))) = V.bl (decide ((r : Int) < (s : Int))))) = true ↔ decide (p < q) ≠ decide (r < s) := fun {p q r s} => by
          have d1 : decide ((p : Int) < (q : Int)) = decide (p < q) := decide_eq_decide.mpr (by omega)
          have d2 : decide ((r : Int) < (s : Int)) = decide (r < s) := decide_eq_decide.mpr (by omega)
          rw [d1, d2]
          cases decide (p < q) <;> cases decide (r < s) <;> decide
        have more : ∀ z : Nat × Nat, (Trn n one other z.1 z.2 ∧ (z.1 < i ∨ (z.1 = i ∧ z.2 < i + 1 + (m + 1)))) ↔ (Trn n one other z.1 z.2 ∧ (z.1 < i ∨ (z.1 = i ∧ z.2 < i + 1 + m))) ∨ (Trn n one other z.1 z.2 ∧ z = (i, i + 1 + m)) := fun z => by
          obtain ⟨a, b⟩ := z
          rw [Prod.mk.injEq]
          constructor
          · rintro ⟨t, h⟩
            have hh : (a < i ∨ (a = i ∧ b < i + 1 + m)) ∨ (a = i ∧ b = i + 1 + m) := by
              have : a < i ∨ (a = i ∧ b < i + 1 + (m + 1)) := h
              omega
            rcases hh with h | h
            · exact .inl ⟨t, h⟩
            · exact .inr ⟨t, h⟩
          · rintro (⟨t, h⟩ | ⟨t, h⟩)
            · refine ⟨t, ?_⟩
              have : a < i ∨ (a = i ∧ b < i + 1 + m) := h
              show a < i ∨ (a = i ∧ b < i + 1 + (m + 1))
              omega
            · refine ⟨t, ?_⟩
              show a < i ∨ (a = i ∧ b < i + 1 + (m + 1))
              omega
        refine ite2 (fun z => ?_) (fun z => ?_)
        · have ht : Trn n one other i (i + 1 + m) := ⟨by omega, hj, ed.mp z⟩
          refine ⟨_, rfl, .inl ⟨rfl, _, SqL.of q1.1⟩, _, rfl, _, rfl, by show 2 ≤ sizeLine; decide, fun r nr => ?_⟩
          have sr := sn (o := .tup [.int (i : Nat), .int ((i + 1 + m : Nat) : Int)]) nr
          have nrD : r ≠ D := fun e => by rw [e, q1.1] at nr; cases nr
          have k2 := kpL (ys := vs ++ [.ref r]) (sr _ _ q1.1)
          refine ⟨D, vs, _, rfl, rfl, sr _ _ q1.1, by rw [Paired.length q1.2]; exact lt_line (by omega), _, rfl, same_mut (s3.trans sr) nD, vs ++ [.ref r], zs ++ [(i, i + 1 + m)], ⟨upd_same, ?_⟩, by rw [List.length_append, List.length_singleton]; omega, fun z => ?_⟩
          · refine (prd_imp q1.2 fun _ _ q => (q.up (kp sr)).up k2).snoc ⟨r, rfl, ?_⟩
            rw [upd_ne nrD]
            exact upd_same
          · rw [List.mem_append, List.mem_singleton, q3, more]
            constructor
            · rintro (h | h)
              · exact .inl h
              · exact .inr ⟨by rw [h]; exact ht, h⟩
            · rintro (h | h)
              · exact .inl h
              · exact .inr h.2
        · have ht : ¬ Trn n one other i (i + 1 + m) := fun h => z (ed.mpr h.2.2)
          refine ⟨_, rfl, s3, vs, zs, q1, by omega, fun z => ?_⟩
          rw [q3, more]
          constructor
          · exact .inl
          · rintro (h | h)
            · exact h
            · refine absurd h.1 ?_
              rw [h.2]
              exact ht
      · obtain ⟨v4, rfl, s3, vs, zs, q1, q2, q3⟩ := p
        rw [List.length_range'] at q2 q3
        refine ⟨_, _, rfl, s3, vs, zs, q1, by omega, fun z => ?_⟩
        rw [q3]
        constructor
        · rintro ⟨a, b⟩
          exact ⟨a, by omega⟩
        · rintro ⟨a, b⟩
          refine ⟨a, ?_⟩
          have := a.2.1
          have := a.1
          omega
    · obtain ⟨v3, v4, rfl, s1, vs, zs, q1, q2, q3⟩ := p
      have bound : n * n ≤ 1600 := Nat.mul_le_mul h40 h40
      refine ⟨_, rfl, k _ _ vs zs s1 q1 (by omega) fun z => ?_⟩
      rw [q3]
      constructor
      · rintro ⟨a, _⟩
        exact a
      · intro a
        refine ⟨a, ?_⟩
        have := a.2.1
        have := a.1
        omega
theorem lock_same {H H' : Hp} {d : Addr} {u : HO} {od : Obj} (h : H d = some u) (s : Same (upd H d (.frz od u)) H') : Same H (upd H' d u) := fun a o q => by
  by_cases e : a = d
  · subst e
    rw [h] at q
    cases q
    exact upd_same
  · rw [upd_ne e]
    refine s a o ?_
    rw [upd_ne e]
    exact q
theorem prd_eq {f : Nat → V} : ∀ {vs : List V} {l : List Nat}, Paired (fun v x => v = f x) vs l → vs = l.map f
  | _, _, .nil => rfl
  | _, _, .cons h t => by rw [h, prd_eq t, List.map_cons]
theorem keys_at : ∀ {kvs : List (Key × V)} {l : List Nat} {F : Nat → V → Prop}, Paired (fun (kv : Key × V) (x : Nat) => kv.1 = Sum.inl (x : Int) ∧ F x kv.2) kvs l → ∀ {i : Nat} {k : Key} {v : V}, kvs[i]? = some (k, v) → ∃ x, l[i]? = some x ∧ k = Sum.inl (x : Int)
  | _, _, _, .nil, _, _, _, h => by cases h
  | _, _, _, .cons h _, 0, _, _, e => by
    cases Option.some.inj e
    exact ⟨_, rfl, h.1⟩
  | _, _, _, .cons _ t, i + 1, _, _, e => keys_at t (i := i) e
theorem walk_keysn {d : Addr} {o : Obj} {kvs : List (Key × V)} {n : Nat} (h : kvs.length = n) : Walk (Itk d o kvs) n (fun H => H d = some (.frz o (.dK kvs))) (fun i H x H' => H' = H ∧ ∃ k v, kvs[i]? = some (k, v) ∧ x = kV k) := by
  subst h
  exact walk_keys
/-! _law_weightiest: slots 0=_law_one 1=_law_other 2=_law_weights 3=_law_best 4=_law_box 5=_law_ahead 6=_law_elder -/
def sp_law_weightiest : Sp := fun vs H Q _ => ∃ (la ua : Addr) (wa : Addr) (n : Nat) (one other : List Nat) (W : Nat → Int), vs = [.ref la, .ref ua, .ref wa] ∧ Zt H la ((NI one).map V.int) ∧ Zt H ua ((NI other).map V.int) ∧ Ord n one ∧ Ord n other ∧ n ≤ 40 ∧ H wa = some (.lst ((List.range n).map fun x => V.int (W x))) ∧
  ∀ H', Same H H' → Q (.int (mx0 (one.map (best one other W)))) H'
theorem sc_law_weightiest : FnScope ["_law_one", "_law_other", "_law_weights", "_law_best", "_law_box", "_law_ahead", "_law_elder"] ["_law_one", "_law_other", "_law_weights"] (defScope (top 74)) := ⟨rfl, rfl, rfl, by decide +kernel, rfl, by decide +kernel, by decide +kernel⟩
theorem ok_law_weightiest {P : Program} {w : World} {K : PySem.W.Frag} {mg : Str → Option Value} {base : Heap} (T : Tx K mg) : Fn P w K mg base "_law_weightiest" 1 ["_law_one", "_law_other", "_law_weights"] (sp_law_weightiest) := by
  refine mkFn (k := 0) T.t__law_weightiest sc_law_weightiest (fun vs H Q E h => ?_) (fun _ _ _ _ _ _ us hl => match us, hl with | [_, _, _], _ => rfl) (fun f cdv A outer s H vs Q E hr h => ?_)
  · obtain ⟨la, ua, wa, n, one, other, W, rfl, hl, hu, ho, ho2, h40, hw, k⟩ := h <;> rfl
  · refine ⟨_, (pss_cons (ps_set (i := 3) sc_law_weightiest.nd rfl (by first | exact Or.inl rfl | exact Or.inr rfl) pe_dnewK)
        (pss_cons (ps_for PassesOwn.never rfl (k_pt (K := K) rfl (pv 0)) (pg_name (i := 4) sc_law_weightiest.nd rfl (by first | exact Or.inl rfl | exact Or.inr rfl)) (pss_cons (ps_lock (ps_setLc (i := 5) (own := [("_law_elder", 6)]) (g := (gName 6)) rfl sc_law_weightiest.nd rfl rfl (sw_true rfl rfl rfl (by decide +kernel)) (pi_keys (pv 3)) (blkOk_by (N := ["_law_one", "_law_other", "_law_weights", "_law_best", "_law_box", "_law_ahead", "_law_elder"]) (sc := defScope (top 74)) (by decide +kernel)) (fun _ _ _ _ _ => (pg_name (i := 6) sc_law_weightiest.nd rfl (by first | exact Or.inl rfl | exact Or.inr rfl))) (fun _ _ _ _ _ => (pts_one (pt_cmpR op_gt (pe_bmZ PySem.F.plainAttrs_tuple PySem.F.slot_tuple_index PySem.F.type_tuple_index (k_idx (K := K) rfl) (pv 1) (pa_cons (pv 6) pa_nil)) (pe_bmZ PySem.F.plainAttrs_tuple PySem.F.slot_tuple_index PySem.F.type_tuple_index (k_idx (K := K) rfl) (pv 1) (pa_cons (pv 4) pa_nil)) (nomark _)))) (fun _ _ _ _ _ => (pe_dget (hu_of hr) (pv 3) (pv 6) (fun _ _ => rfl)))))
        (pss_one (ps_dput (hu_of hr) (pv 3) (pv 4) (pe_op op_add (pe_ix (k_ixL (K := K) rfl) (pv 2) (pv 4) (fun _ _ => rfl)) (pe_callB (k_max (K := K) rfl rfl) rfl T.f_max b_max (pa_cons (pe_op op_cat (pv 5) (pe_lst (pa_cons pe_int pa_nil))) pa_nil))) rfl))))
        (pss_one (ps_ret (pe_callB (k_max (K := K) rfl rfl) rfl T.f_max b_max (pa_cons (pe_op op_cat (pe_listVals rfl (pv 3) rfl T.f_list) (pe_lst (pa_cons pe_int pa_nil))) pa_nil)))))), ?_⟩
    obtain ⟨la, ua, wa, n, one, other, W, rfl, hl, hu, ho, ho2, h40, hw, k⟩ := h
    have ll := ho.len
    refine fun d nd => ?_
    have sd := sn (o := .dK []) nd
    refine ⟨_, rfl, la, rfl, ⟨_, (hl.up sd).sq⟩, for_it (walk_tup (xs := (NI one).map V.int)) (fun i σ H' => ∃ v4 v5, σ = [some (.ref la), some (.ref ua), some (.ref wa), some (.ref d), v4, v5, none] ∧ Same H H' ∧ DD (fun x v _ => v = .int (best one other W x)) H' d (one.take i))
      ⟨none, none, rfl, sd, DD.nil upd_same⟩ (fun i σ H' _ p => ?_) (fun i x σ H2 H3 hi p y => ?_) (fun σ H2 p => ?_)⟩
    · obtain ⟨_, _, _, s3, _⟩ := p
      exact (hl.up s3).sq
    · obtain ⟨v4, v5, rfl, s3, hd⟩ := p
      obtain ⟨rfl, hx⟩ := y
      obtain ⟨j, e1, rfl⟩ := NI_at hx
      have hj := ho.lt (List.mem_of_getElem? e1)
      have epos := pos_of ho.nd e1
      rw [NI_vlen] at hi
      obtain ⟨kvs, hk, hp⟩ := id hd
      have lk := Paired.length hp
      refine ⟨d, .dK kvs, hk, True.intro, fun od => ?_⟩
      have hu2 : Zt (upd H3 d (.frz od (.dK kvs))) ua ((NI other).map V.int) := by
        obtain ⟨o, q1, q2⟩ := hu
        refine ⟨o, ?_, q2⟩
        rw [upd_ne (ne_of_none q1 nd)]
        exact s3 _ _ q1
      refine ⟨_, rfl, d, od, rfl, .inl ⟨kvs, upd_same, lc_filt (one.take i) (fun e => decide (pos other j < pos other e)) (fun e => .int (best one other W e)) (walk_keysn lk) (by rw [List.length_take]; omega) (fun H' s => s _ _ upd_same) (fun m z x H4 H5 hz s4 y Qt Qf k1 k2 => ?_) (fun F H4 nF s4 hF => ?_)⟩⟩
      · obtain ⟨rfl, kk, vv, hkv, rfl⟩ := y
        obtain ⟨z2, hz2, rfl⟩ := keys_at (F := fun x v => v = V.int (best one other W x)) hp hkv
        cases Option.some.inj (hz.symm.trans hz2)
        have hzm := List.mem_of_mem_take (List.mem_of_getElem? hz)
        have hz1 := ho.lt hzm
        have zu := hu2.up s4
        have tu := zu.sq (K := K)
        have j1 := idx_rd ho2.nd (ho2.mem hz1)
        have j2 := idx_rd ho2.nd (ho2.mem hj)
        refine ⟨rfl, _, rfl, ⟨ua, _, rfl, zu⟩, _, rfl, ua, NI other, _, pos other z, rfl, rfl, tu, j1.1, j1.2, ?_⟩
        refine ⟨_, rfl, ⟨ua, _, rfl, zu⟩, _, rfl, ua, NI other, _, pos other j, rfl, rfl, tu, j2.1, j2.2, _, _, rfl, rfl, ?_⟩
        by_cases c : pos other j < pos other z
        · refine ⟨_, rfl, if1 (decide_eq_true (by omega)) ?_⟩
          obtain ⟨v2, g1, rfl⟩ := vals_at (F := fun x v => v = V.int (best one other W x)) hp (List.Pairwise.sublist (List.take_sublist _ _) ho.nd) (List.mem_of_getElem? hz)
          exact ⟨_, rfl, _, rfl, d, _, rfl, .inl ⟨kvs, Sum.inl (z : Int), .inr ⟨od, s4 _ _ upd_same⟩, rfl, g1.symm⟩, k1 _ (Same.refl _) (decide_eq_true c)⟩
        · exact ⟨_, rfl, if0 (decide_eq_false (by omega)) (k2 _ (Same.refl _) (decide_eq_false c))⟩
      · have sL : Same H3 (upd H4 d (.dK kvs)) := lock_same hk s4
        have nFd : F ≠ d := fun e => by
          rw [e, upd_same] at nF
          cases nF
        have hF2 : (upd H4 d (.dK kvs)) F = some (.lst ((ah one other j).map fun e => V.int (best one other W e))) := by
          rw [upd_ne nFd, hF]
          unfold ah
          rw [epos]
        refine ⟨s4 _ _ upd_same, ?_⟩
        refine ⟨_, rfl, _, rfl, wa, _, (j : Nat), _, rfl, rfl, SqL.of (sL _ _ (s3 _ _ hw)), atI_nat (rgm_at hj), ?_⟩
        refine ⟨_, rfl, by show 1 ≤ sizeLine; decide, fun c3 n3 => ?_⟩
        have t3 := sn (o := .lst [.int 0]) n3
        have la40 : (ah one other j).length ≤ 40 := by
          unfold ah
          refine Nat.le_trans (List.length_filter_le _ _) ?_
          rw [List.length_take]
          omega
        refine ⟨F, c3, _, [.int 0], rfl, rfl, t3 _ _ hF2, upd_same, ?_, fun p np => ?_⟩
        · have := sizeLine_eq
          rw [List.length_map]
          show _ + 1 ≤ _
          omega
        have t4 := sn (o := .lst ((ah one other j).map (fun e => V.int (best one other W e)) ++ [.int 0])) np
        refine ⟨p, (ah one other j).map (best one other W) ++ [0], rfl, SqL.of (by rw [upd_same, List.map_append, List.map_map]; rfl), by simp, fun m hm hmx => ⟨_, _, rfl, rfl, ?_⟩⟩
        have em : W j + m = best one other W j := by rw [mx0_of hm hmx, best_eq ho.nd]
        have sAll := (sL.trans t3).trans t4
        have hj2 : j ∉ one.take i := fun m => by
          have := ((mem_take_pos ho.nd).mp m).2
          omega
        obtain ⟨H7, d1, d2, d3, d4⟩ := DD.put int_stb (hd.up int_stb sAll) (v := .int (W j + m)) hj2 (by rw [List.length_take]; omega) (by rw [em])
        refine ⟨_, rfl, _, rfl, d, H7, rfl, d1, ?_⟩
        exact ⟨_, _, rfl, d4 H (s3.trans sAll) nd, by rw [take_snoc e1]; exact d2⟩
    · obtain ⟨v4, v5, rfl, s3, hd⟩ := p
      have hd : DD (fun x v _ => v = .int (best one other W x)) H2 d (one.take ((NI one).map V.int).length) := hd
      rw [NI_vlen, List.take_length] at hd
      obtain ⟨kvs, hk, hp⟩ := hd
      have ev := prd_eq (prd_vals (F := fun x v => v = V.int (best one other W x)) hp)
      refine ⟨_, rfl, d, kvs, rfl, hk, fun F nF => ?_⟩
      have t1 := sn (o := .lst (kvs.map (·.2))) nF
      refine ⟨by show 1 ≤ sizeLine; decide, fun c nc => ?_⟩
      have t2 := sn (o := .lst [.int 0]) nc
      refine ⟨F, c, _, [.int 0], rfl, rfl, t2 _ _ upd_same, upd_same, ?_, fun p np => ?_⟩
      · have := sizeLine_eq
        rw [ev, List.length_map]
        show _ + 1 ≤ _
        omega
      have t3 := sn (o := .lst (kvs.map (·.2) ++ [.int 0])) np
      refine ⟨p, one.map (best one other W) ++ [0], rfl, SqL.of (by rw [upd_same, ev, List.map_append, List.map_map]; rfl), by simp, fun m hm hmx => ?_⟩
      rw [mx0_of hm hmx]
      exact k _ (((s3.trans t1).trans t2).trans t3)
/-! _law_flag: slots 0=_law_told 1=_law_due -/
def sp_law_flag : Sp := fun vs H Q _ => ∃ (a b : Bool), vs = [.bl a, .bl b] ∧ Q (.bl (a == b)) H
theorem sc_law_flag : FnScope ["_law_told", "_law_due"] ["_law_told", "_law_due"] (defScope (top 75)) := ⟨rfl, rfl, rfl, by decide +kernel, rfl, by decide +kernel, by decide +kernel⟩
theorem ok_law_flag {P : Program} {w : World} {K : PySem.W.Frag} {mg : Str → Option Value} {base : Heap} (T : Tx K mg) : Fn P w K mg base "_law_flag" 1 ["_law_told", "_law_due"] (sp_law_flag) := by
  refine mkFn (k := 0) T.t__law_flag sc_law_flag (fun vs H Q E h => ?_) (fun _ _ _ _ _ _ us hl => match us, hl with | [_, _], _ => rfl) (fun f cdv A outer s H vs Q E hr h => ?_)
  · obtain ⟨a, b, rfl, q⟩ := h <;> rfl
  · refine ⟨_, (pss_one (ps_ret (pe_and (pe_callB (k_isi (K := K) rfl) rfl T.f_isinstance b_isinstance (pa_cons (pv 0) (pa_cons (pe_ty rfl T.f_bool b_bool) pa_nil))) (pe_one (pe_cmpR op_eq (pv 0) (pv 1) (nomark _)))))), ?_⟩
    obtain ⟨a, b, rfl, q⟩ := h
    obtain ⟨t2, u2, b1, b2, b3⟩ := isi_bool (K := K) (.bl (H := H) a)
    refine ⟨_, rfl, _, .ty "bool", t2, u2, _, rfl, b1, b2, b3, _, rfl, ite2 (fun c => ⟨_, rfl, _, rfl, rfl, qb ?_ q⟩) (fun c => absurd rfl c)⟩
    cases a <;> cases b <;> decide
/-! _law_whole: slots 0=_law_thing 1=_law_least 2=_law_most -/
def sp_law_whole : Sp := fun vs H Q _ => ∃ (x : V) (a b : Int), vs = [x, .int a, .int b] ∧ Kd H x ∧ Q (.bl (inB x a b)) H
theorem sc_law_whole : FnScope ["_law_thing", "_law_least", "_law_most"] ["_law_thing", "_law_least", "_law_most"] (defScope (top 76)) := ⟨rfl, rfl, rfl, by decide +kernel, rfl, by decide +kernel, by decide +kernel⟩
theorem ok_law_whole {P : Program} {w : World} {K : PySem.W.Frag} {mg : Str → Option Value} {base : Heap} (T : Tx K mg) : Fn P w K mg base "_law_whole" 1 ["_law_thing", "_law_least", "_law_most"] (sp_law_whole) := by
  refine mkFn (k := 0) T.t__law_whole sc_law_whole (fun vs H Q E h => ?_) (fun _ _ _ _ _ _ us hl => match us, hl with | [_, _, _], _ => rfl) (fun f cdv A outer s H vs Q E hr h => ?_)
  · obtain ⟨x, a, b, rfl, hk, q⟩ := h <;> rfl
  · refine ⟨_, (pss_one (ps_ret (pe_and (pe_callB (k_isi (K := K) rfl) rfl T.f_isinstance b_isinstance (pa_cons (pv 0) (pa_cons (pe_ty rfl T.f_int b_int) pa_nil))) (pe_and (pe_not (pe_callB (k_isi (K := K) rfl) rfl T.f_isinstance b_isinstance (pa_cons (pv 0) (pa_cons (pe_ty rfl T.f_bool b_bool) pa_nil)))) (pe_one (pe_chain op_le op_le (pv 1) (pv 0) (pv 2))))))), ?_⟩
    obtain ⟨x, a, b, rfl, hk, q⟩ := h
    obtain ⟨t1, u1, a1, a2, a3⟩ := isi_int (K := K) hk
    obtain ⟨t2, u2, b1, b2, b3⟩ := isi_bool (K := K) hk
    refine ⟨x, rfl, x, .ty "int", t1, u1, _, rfl, a1, a2, a3, _, rfl, ite2 (fun c => ⟨x, rfl, x, .ty "bool", t2, u2, _, rfl, b1, b2, b3, _, rfl, _, rfl, ite2 (fun c2 => ?_) (fun c2 => ?_)⟩) (fun c => ?_)⟩
    · obtain ⟨i, rfl⟩ : ∃ i, x = .int i := by
        cases x <;> first | exact ⟨_, rfl⟩ | (cases c; done) | (cases c2; done)
      refine ⟨_, rfl, _, rfl, a, i, rfl, rfl, _, rfl, ite2 (fun c1 => ⟨_, rfl, i, b, rfl, rfl, ?_⟩) (fun c1 => ?_)⟩
      · refine qb ?_ q
        show decide (i ≤ b) = (decide (a ≤ i) && decide (i ≤ b))
        rw [c1]
        rfl
      · refine qb ?_ q
        show false = (decide (a ≤ i) && decide (i ≤ b))
        rw [Bool.not_eq_true] at c1
        rw [c1]
        rfl
    · refine qb ?_ q
      cases x <;> first | rfl | exact absurd rfl c2 | cases c
    · refine qb ?_ q
      cases x <;> first | rfl | exact absurd rfl c
end K20

namespace K20
open PySem PySem.Spec PyProof.Rows L2
/-- two boxes stand apart -/
def Apt (W L : Nat → Int) (i j : Nat) : Prop := L i + W i ≤ L j ∨ L j + W j ≤ L i
theorem stand_pairs {n : Nat} {one other : List Nat} {W L : Nat → Int} {width : Int} {zs : List (Nat × Nat)} (ho : Ord n one) (ho2 : Ord n other) (hz : ∀ z : Nat × Nat, z ∈ zs ↔ Trn n one other z.1 z.2) :
    Stand n one other W width L ↔ (∀ x, x < n → 0 ≤ L x ∧ L x ≤ width - W x) ∧ ∀ z ∈ zs, Apt W L z.1 z.2 := by
  unfold Stand Apt
  constructor
  · rintro ⟨h1, h2⟩
    refine ⟨h1, fun z hzz => ?_⟩
    have t := (hz z).mp hzz
    rcases (trn_tw ho ho2 t.1 t.2.1).mp t with q | q
    · exact h2 _ _ (by have := t.1; have := t.2.1; omega) t.2.1 q
    · exact (h2 _ _ t.2.1 (by have := t.1; have := t.2.1; omega) q).symm
  · rintro ⟨h1, h2⟩
    refine ⟨h1, fun e x he hx t => ?_⟩
    have ne : e ≠ x := fun q => by
      rw [q] at t
      exact absurd t.1 (Nat.lt_irrefl _)
    by_cases c : e < x
    · exact h2 (e, x) ((hz _).mpr ((trn_tw ho ho2 c hx).mpr (.inl t)))
    · exact (h2 (x, e) ((hz _).mpr ((trn_tw ho ho2 (by omega) he).mpr (.inr t)))).symm
theorem inB_int {x : V} {a b : Int} (h : inB x a b = true) : ∃ i, x = .int i ∧ a ≤ i ∧ i ≤ b := by
  cases x with
  | int i =>
    have h2 : (decide (a ≤ i) && decide (i ≤ b)) = true := h
    rw [Bool.and_eq_true] at h2
    exact ⟨i, rfl, of_decide_eq_true h2.1, of_decide_eq_true h2.2⟩
  | _ => exact absurd h (fun z => by cases z)
theorem ints_of_inB : ∀ {xs : List V}, (∀ x ∈ xs, ∃ a b, inB x a b = true) → ∃ L : List Int, xs = L.map V.int
  | [], _ => ⟨[], rfl⟩
  | x :: xs, h => by
    obtain ⟨L, e⟩ := ints_of_inB fun y hy => h y (List.mem_cons_of_mem _ hy)
    obtain ⟨a, b, q⟩ := h x List.mem_cons_self
    obtain ⟨i, rfl, _⟩ := inB_int q
    exact ⟨i :: L, by rw [e]; rfl⟩
theorem getD_at {L : List Int} {x : Nat} (h : x < L.length) : L[x]? = some (L.getD x 0) := by
  rw [List.getD_eq_getElem?_getD, List.getElem?_eq_getElem h]
  rfl
theorem getDV_at {L : List Int} {x : Nat} (h : x < L.length) : (L.map V.int)[x]? = some (.int (L.getD x 0)) := by
  rw [List.getElem?_map, getD_at h]
  rfl
/-! _law_is_stand: slots 0=_law_sizes_here 1=_law_width_here 2=_law_pairs 3=_law_thing 4=_law_edge 5=_law_wide 6=_law_high 7=_law_one 8=_law_other -/
def sp_law_is_stand : Sp := fun vs H Q _ => ∃ (u th : V) (width : Int) (D : Addr) (ws : List V) (ss : List (Int × Int)) (zs : List (Nat × Nat)) (one other : List Nat), vs = [u, .int width, .ref D, th] ∧ TP H u ss ∧ ss.length ≤ 40 ∧ LP H D ws zs ∧ zs.length ≤ 2000 ∧ Ord ss.length one ∧ Ord ss.length other ∧ (∀ z : Nat × Nat, z ∈ zs ↔ Trn ss.length one other z.1 z.2) ∧ Th H th ∧
  ∀ H' b, Same H H' → (b = true ↔ GS H ss width one other th) → Q (.bl b) H'
theorem sc_law_is_stand : FnScope ["_law_sizes_here", "_law_width_here", "_law_pairs", "_law_thing", "_law_edge", "_law_wide", "_law_high", "_law_one", "_law_other"] ["_law_sizes_here", "_law_width_here", "_law_pairs", "_law_thing"] (defScope (top 77)) := ⟨rfl, rfl, rfl, by decide +kernel, rfl, by decide +kernel, by decide +kernel⟩
theorem ok_law_is_stand {P : Program} {w : World} {K : PySem.W.Frag} {mg : Str → Option Value} {base : Heap} (T : Tx K mg) : Fn P w K mg base "_law_is_stand" 2 ["_law_sizes_here", "_law_width_here", "_law_pairs", "_law_thing"] (sp_law_is_stand) := by
  refine mkFn (k := 1) T.t__law_is_stand sc_law_is_stand (fun vs H Q E h => ?_) (fun _ _ _ _ _ _ us hl => match us, hl with | [_, _, _, _], _ => rfl) (fun f cdv A outer s H vs Q E hr h => ?_)
  · obtain ⟨u, th, width, D, ws, ss, zs, one, other, rfl, ⟨ta, tv, rfl, ht, hP⟩, h40, hLP, hzl, ho, ho2, hz, hth, k⟩ := h <;> rfl
  · refine ⟨_, (pss_cons (ps_if (PW.pt (pw_or (pt_not (pt_val (pe_callB (k_isi (K := K) rfl) rfl T.f_isinstance b_isinstance (pa_cons (pv 3) (pa_cons (pe_ty rfl T.f_tuple b_tuple) pa_nil))))) (pw_or1 (pt_cmpR op_ne (pe_callB (k_len (K := K) rfl) rfl T.f_len b_len (pa_cons (pv 3) pa_nil)) (pe_callB (k_len (K := K) rfl) rfl T.f_len b_len (pa_cons (pv 0) pa_nil)) (nomark _))))) (pss_one (ps_ret pe_bl)) pss_nil)
        (pss_cons (ps_for PassesOwn.never rfl (k_zip (K := K) rfl rfl T.f_zip (pa_cons (pv 3) (pa_cons (pv 0) pa_nil))) (pg_tup rfl (pgs_cons (pg_name (i := 4) sc_law_is_stand.nd rfl (by first | exact Or.inl rfl | exact Or.inr rfl)) (pgs_cons (pg_tup rfl (pgs_cons (pg_name (i := 5) sc_law_is_stand.nd rfl (by first | exact Or.inl rfl | exact Or.inr rfl)) (pgs_cons (pg_name (i := 6) sc_law_is_stand.nd rfl (by first | exact Or.inl rfl | exact Or.inr rfl)) pgs_nil))) pgs_nil))) (pss_one (ps_if (pt_not (pt_val (cl (ok_law_whole T) (hr.mono (by decide)) rfl (pa_cons (pv 4) (pa_cons pe_int (pa_cons (pe_op op_sub (pv 1) (pv 5)) pa_nil)))))) (pss_one (ps_ret pe_bl)) pss_nil)))
        (pss_cons (ps_for PassesOwn.never rfl (k_pl (K := K) rfl (pv 2)) (pg_tup rfl (pgs_cons (pg_name (i := 7) sc_law_is_stand.nd rfl (by first | exact Or.inl rfl | exact Or.inr rfl)) (pgs_cons (pg_name (i := 8) sc_law_is_stand.nd rfl (by first | exact Or.inl rfl | exact Or.inr rfl)) pgs_nil))) (pss_one (ps_if (PW.pt (pw_and (pt_cmpR op_lt (pe_ix (k_ixT (K := K) rfl) (pv 3) (pv 7) (fun _ _ => rfl)) (pe_op op_add (pe_ix (k_ixT (K := K) rfl) (pv 3) (pv 8) (fun _ _ => rfl)) (pe_ix (k_ixT (K := K) rfl) (pe_ix (k_ixT (K := K) rfl) (pv 0) (pv 8) (fun _ _ => rfl)) pe_int (fun _ _ => rfl))) (nomark _)) (pw_and1 (pt_cmpR op_lt (pe_ix (k_ixT (K := K) rfl) (pv 3) (pv 8) (fun _ _ => rfl)) (pe_op op_add (pe_ix (k_ixT (K := K) rfl) (pv 3) (pv 7) (fun _ _ => rfl)) (pe_ix (k_ixT (K := K) rfl) (pe_ix (k_ixT (K := K) rfl) (pv 0) (pv 7) (fun _ _ => rfl)) pe_int (fun _ _ => rfl))) (nomark _))))) (pss_one (ps_ret pe_bl)) pss_nil)))
        (pss_one (ps_ret pe_bl))))), ?_⟩
    obtain ⟨u, th, width, D, ws, ss, zs, one, other, rfl, ⟨ta, tv, rfl, ht, hP⟩, h40, hLP, hzl, ho, ho2, hz, hth, k⟩ := h
    have lw := Paired.length hP
    rcases hth with ⟨a, xs, rfl, hx, hk⟩ | hnt
    · obtain ⟨t1, u1, a1, a2, a3⟩ := isi_tup (K := K) hx
      refine ⟨_, rfl, _, .ty "tuple", t1, u1, _, rfl, a1, a2, a3, _, rfl, ifn0 rfl ?_⟩
      refine ⟨_, rfl, a, xs, rfl, .inr (SqT.of hx), _, rfl, ta, tv, rfl, .inr (SqT.of ht), rfl, _, rfl, ite2 (fun c => ?_) (fun c => ?_)⟩
      · refine k H false (Same.refl _) ⟨fun q => (by cases q), ?_⟩
        rintro ⟨a2, L2, e, g2, g3, g4⟩
        cases e
        have e2 := HO.tup.inj (Option.some.inj (hx.symm.trans g2))
        subst e2
        rw [List.length_map, g3, lw] at c
        simp at c
      have hlen : xs.length = ss.length := by
        rw [lw] at c
        by_cases e : xs.length = ss.length
        · exact e
        · refine absurd ?_ c
          rw [Bool.not_eq_true']
          exact decide_eq_false fun z => e (Int.ofNat.inj (V.int.inj z))
      refine ⟨_, rfl, _, rfl, a, ta, _, _, rfl, .inr ⟨SqT.of hx, SqT.of ht, for_it (walk_zipT (xs := xs) (ys := tv) (n := ss.length) (by omega)) (fun i σ H' => ∃ v4 v5 v6, σ = [some (.ref ta), some (.int width), some (.ref D), some (.ref a), v4, v5, v6, none, none] ∧ Same H H' ∧ ∀ (m : Nat) (x : V), m < i → xs[m]? = some x → inB x 0 (width - wd ss m) = true)
        ⟨none, none, none, rfl, Same.refl _, fun m x h => absurd h (Nat.not_lt_zero _)⟩ (fun i σ H' _ p => ?_) (fun i x σ H1 H2 hi p y => ?_) (fun σ H1 p => ?_)⟩⟩
      · obtain ⟨_, _, _, _, s1, _⟩ := p
        exact ⟨SqT.of (s1 _ _ hx), SqT.of (s1 _ _ ht)⟩
      · obtain ⟨v4, v5, v6, rfl, s1, hall⟩ := p
        obtain ⟨U, x1, x2, rfl, nU, rfl, y1, y2⟩ := y
        have sU := sn (o := .tup [x1, x2]) nU
        obtain ⟨x2', g1, c, rfl, hc⟩ := prd_get hP (ss_at hi)
        cases Option.some.inj (g1.symm.trans y2)
        refine ⟨U, _, rfl, SqT.of upd_same, rfl, _, _, rfl, _, _, rfl, c, _, rfl, SqT.of (sU _ _ (s1 _ _ hc)), rfl, _, _, rfl, _, _, rfl, rfl, rfl, ?_⟩
        refine ⟨_, rfl, _, rfl, _, rfl, _, _, rfl, rfl, x1, 0, _, rfl, (hk _ (List.mem_of_getElem? y1)).up (kp (s1.trans sU)), _, rfl, ?_⟩
        by_cases e : inB x1 0 (width - wd ss i) = true
        · refine ifn0 e ⟨_, _, _, rfl, s1.trans sU, fun m x hm hxm => ?_⟩
          by_cases em : m = i
          · subst em
            cases Option.some.inj (hxm.symm.trans y1)
            exact e
          · exact hall m x (by omega) hxm
        · refine ifn1 (by simpa using e) (k _ false (s1.trans sU) ⟨fun q => (by cases q), ?_⟩)
          rintro ⟨a2, L2, e2, g2, g3, g4⟩
          cases e2
          have e3 := HO.tup.inj (Option.some.inj (hx.symm.trans g2))
          subst e3
          have q := getDV_at (L := L2) (x := i) (by omega)
          cases Option.some.inj (q.symm.trans y1)
          have r := g4.1 i hi
          refine absurd ?_ e
          show (decide (0 ≤ L2.getD i 0) && decide (L2.getD i 0 ≤ width - wd ss i)) = true
          rw [Bool.and_eq_true]
          exact ⟨decide_eq_true r.1, decide_eq_true r.2⟩
      · obtain ⟨v4, v5, v6, rfl, s1, hall⟩ := p
        obtain ⟨L, rfl⟩ := ints_of_inB (xs := xs) fun x hxm => by
          obtain ⟨m, hm⟩ := List.mem_iff_getElem?.mp hxm
          exact ⟨_, _, hall m x (by have := lt_at hm; omega) hm⟩
        rw [List.length_map] at hlen
        have hin : ∀ x, x < ss.length → 0 ≤ L.getD x 0 ∧ L.getD x 0 ≤ width - wd ss x := fun x hxs => by
          obtain ⟨i, e, q1, q2⟩ := inB_int (hall x _ hxs (getDV_at (by omega)))
          cases e
          exact ⟨q1, q2⟩
        obtain ⟨hD, hLz⟩ := hLP
        have lz := Paired.length hLz
        refine ⟨_, rfl, D, rfl, ⟨_, SqL.of (s1 _ _ hD)⟩, for_it (walk_listn (n := zs.length) lz) (fun i σ H' => ∃ v7 v8, σ = [some (.ref ta), some (.int width), some (.ref D), some (.ref a), v4, v5, v6, v7, v8] ∧ Same H H' ∧ ∀ (m : Nat) (z : Nat × Nat), m < i → zs[m]? = some z → Apt (wd ss) (fun x => L.getD x 0) z.1 z.2)
          ⟨none, none, rfl, s1, fun m x h => absurd h (Nat.not_lt_zero _)⟩ (fun i σ H' _ p => ?_) (fun i x σ H2 H3 hi p y => ?_) (fun σ H2 p => ?_)⟩
        · obtain ⟨_, _, _, s2, _⟩ := p
          exact SqL.of (s2 _ _ hD)
        · obtain ⟨v7, v8, rfl, s2, hall2⟩ := p
          obtain ⟨rfl, hxz⟩ := y
          obtain ⟨z, ez⟩ := at_lt (l := zs) (i := i) hi
          obtain ⟨x', g1, c, rfl, hc⟩ := prd_get hLz ez
          cases Option.some.inj (g1.symm.trans hxz)
          have hzt := (hz z).mp (List.mem_of_getElem? ez)
          have z2 : z.2 < ss.length := hzt.2.1
          have z1 : z.1 < ss.length := by have := hzt.1; omega
          have hx3 := SqT.of (K := K) (s2 _ _ hx)
          have ht3 := SqT.of (K := K) (s2 _ _ ht)
          have q1 := getDV_at (L := L) (x := z.1) (by omega)
          have q2 := getDV_at (L := L) (x := z.2) (by omega)
          obtain ⟨_, f1, c1, rfl, h1⟩ := prd_get hP (ss_at z1)
          obtain ⟨_, f2, c2, rfl, h2⟩ := prd_get hP (ss_at z2)
          have nxt : Apt (wd ss) (fun x => L.getD x 0) z.1 z.2 → ∀ (m : Nat) (w : Nat × Nat), m < i + 1 → zs[m]? = some w → Apt (wd ss) (fun x => L.getD x 0) w.1 w.2 := fun hap m w hm hw => by
            by_cases em : m = i
            · subst em
              cases Option.some.inj (hw.symm.trans ez)
              exact hap
            · exact hall2 m w (by omega) hw
          refine ⟨c, _, rfl, SqT.of (s2 _ _ hc), rfl, _, _, rfl, _, _, rfl, rfl, ?_⟩
          refine ⟨_, rfl, _, rfl, a, _, _, _, rfl, rfl, hx3, atI_nat q1, _, rfl, _, rfl, a, _, _, _, rfl, rfl, hx3, atI_nat q2, _, rfl, _, rfl, ta, _, _, _, rfl, rfl, ht3, atI_nat f2, c2, _, 0, _, rfl, rfl, SqT.of (s2 _ _ h2), atI_nat (j := 0) rfl, _, _, rfl, rfl, _, _, rfl, rfl, _, rfl, ite2 (fun cc => ?_) (fun cc => ?_)⟩
          · refine ⟨_, rfl, _, rfl, a, _, _, _, rfl, rfl, hx3, atI_nat q2, _, rfl, _, rfl, a, _, _, _, rfl, rfl, hx3, atI_nat q1, _, rfl, _, rfl, ta, _, _, _, rfl, rfl, ht3, atI_nat f1, c1, _, 0, _, rfl, rfl, SqT.of (s2 _ _ h1), atI_nat (j := 0) rfl, _, _, rfl, rfl, _, _, rfl, rfl, _, rfl, ite2 (fun c4 => ?_) (fun c4 => ?_)⟩
            · have d1 := of_decide_eq_true cc
              have d2 := of_decide_eq_true c4
              refine k _ false s2 ⟨fun q => (by cases q), fun q => ?_⟩
              have q3 := ((stand_pairs ho ho2 hz).mp ((GS.of hx).mp q).2).2 z (List.mem_of_getElem? ez)
              rcases q3 with q3 | q3
              · have q4 : L.getD z.1 0 + wd ss z.1 ≤ L.getD z.2 0 := q3
                omega
              · have q4 : L.getD z.2 0 + wd ss z.2 ≤ L.getD z.1 0 := q3
                omega
            · have d2 : ¬ (L.getD z.2 0 < L.getD z.1 0 + wd ss z.1) := fun q => c4 (decide_eq_true q)
              exact ⟨_, _, rfl, s2, nxt (.inl (by show L.getD z.1 0 + wd ss z.1 ≤ L.getD z.2 0; omega))⟩
          · have d2 : ¬ (L.getD z.1 0 < L.getD z.2 0 + wd ss z.2) := fun q => cc (decide_eq_true q)
            exact ⟨_, _, rfl, s2, nxt (.inr (by show L.getD z.2 0 + wd ss z.2 ≤ L.getD z.1 0; omega))⟩
        · obtain ⟨v7, v8, rfl, s2, hall2⟩ := p
          refine k H2 true s2 ⟨fun _ => (GS.of hx).mpr ⟨hlen, (stand_pairs ho ho2 hz).mpr ⟨hin, fun z hzm => ?_⟩⟩, fun _ => rfl⟩
          obtain ⟨m, hm⟩ := List.mem_iff_getElem?.mp hzm
          exact hall2 m z (lt_at hm) hm
    · obtain ⟨t1, u1, a1, a2, a3⟩ := isi_nt (K := K) hnt
      refine ⟨_, rfl, _, .ty "tuple", t1, u1, _, rfl, a1, a2, a3, _, rfl, ifn1 rfl (k H false (Same.refl _) ⟨fun q => (by cases q), ?_⟩)⟩
      rintro ⟨a2, L2, e, h2, h3, h4⟩
      exact absurd h2 (hnt.2 a2 _ e)
end K20

namespace K20
open PySem PySem.Spec PyProof.Rows L2
/-! ### all rows of left edges, one box after the other -/
def Good (W : Nat → Int) (width : Int) (zs : List (Nat × Nat)) (b : Nat) (L : List Int) (e : Int) : Prop := (0 ≤ e ∧ e ≤ width - W b) ∧ ∀ q, q < L.length → (q, b) ∈ zs → ¬ (L.getD q 0 < e + W b ∧ e < L.getD q 0 + W q)
def Pref (W : Nat → Int) (width : Int) (zs : List (Nat × Nat)) (i : Nat) (L : List Int) : Prop := L.length = i ∧ (∀ x, x < i → 0 ≤ L.getD x 0 ∧ L.getD x 0 ≤ width - W x) ∧ ∀ z ∈ zs, z.2 < i → Apt W (fun x => L.getD x 0) z.1 z.2
theorem gd_l {L : List Int} {e : Int} {x : Nat} (h : x < L.length) : (L ++ [e]).getD x 0 = L.getD x 0 := by
  rw [List.getD_eq_getElem?_getD, List.getD_eq_getElem?_getD, List.getElem?_append_left h]
theorem gd_e {L : List Int} {e : Int} {x : Nat} (h : x = L.length) : (L ++ [e]).getD x 0 = e := by
  subst h
  rw [List.getD_eq_getElem?_getD, List.getElem?_append_right (Nat.le_refl _), Nat.sub_self]
  rfl
theorem pref_ext {W : Nat → Int} {width : Int} {zs : List (Nat × Nat)} {b : Nat} {G : List Int} (hz : ∀ z ∈ zs, z.1 < z.2) : Pref W width zs (b + 1) G ↔ ∃ L e, G = L ++ [e] ∧ Pref W width zs b L ∧ Good W width zs b L e := by
  constructor
  · rintro ⟨h1, h2, h3⟩
    have eg : G = G.take b ++ [G.getD b 0] := by
      have q := take_snoc (getD_at (L := G) (x := b) (by omega))
      rw [List.take_of_length_le (by omega)] at q
      exact q
    have ll : (G.take b).length = b := by
      rw [List.length_take]
      omega
    have g1 : ∀ x, x < b → (G.take b).getD x 0 = G.getD x 0 := fun x hx => by
      rw [List.getD_eq_getElem?_getD, List.getD_eq_getElem?_getD, List.getElem?_take, if_pos hx]
    refine ⟨G.take b, G.getD b 0, eg, ⟨ll, fun x hx => by rw [g1 x hx]; exact h2 x (by omega), fun z hzm hzb => ?_⟩, h2 b (by omega), fun q hq hqm hc => ?_⟩
    · have z12 := hz z hzm
      have r := h3 z hzm (by omega)
      unfold Apt at r ⊢
      show (G.take b).getD z.1 0 + W z.1 ≤ (G.take b).getD z.2 0 ∨ (G.take b).getD z.2 0 + W z.2 ≤ (G.take b).getD z.1 0
      rw [g1 _ (by omega), g1 _ hzb]
      exact r
    · rw [ll] at hq
      have r := h3 (q, b) hqm (by show b < b + 1; omega)
      rw [g1 q hq] at hc
      unfold Apt at r
      have r2 : G.getD q 0 + W q ≤ G.getD b 0 ∨ G.getD b 0 + W b ≤ G.getD q 0 := r
      omega
  · rintro ⟨L, e, rfl, ⟨h1, h2, h3⟩, h4, h5⟩
    refine ⟨by rw [List.length_append, List.length_singleton]; omega, fun x hx => ?_, fun z hzm hzb => ?_⟩
    · by_cases c : x = b
      · rw [gd_e (by omega), c]
        exact h4
      · rw [gd_l (by omega)]
        exact h2 x (by omega)
    · have z12 := hz z hzm
      unfold Apt
      show (L ++ [e]).getD z.1 0 + W z.1 ≤ (L ++ [e]).getD z.2 0 ∨ (L ++ [e]).getD z.2 0 + W z.2 ≤ (L ++ [e]).getD z.1 0
      by_cases c : z.2 = b
      · rw [gd_e (x := z.2) (by omega), gd_l (x := z.1) (by omega)]
        have r := h5 z.1 (by omega) (by rw [← c]; exact hzm)
        rw [c]
        omega
      · rw [gd_l (x := z.2) (by omega), gd_l (x := z.1) (by omega)]
        exact h3 z hzm (by omega)
/-! ### a pair in a list of pairs -/
def encZ (z : Nat × Nat) : PyData := .tuple [.int z.1, .int z.2]
theorem dp_Z {K : PySem.W.Frag} {H : Hp} {v : V} {z : Nat × Nat} (h : TI H v [(z.1 : Int), (z.2 : Int)]) : Dp K H v (encZ z) := by
  obtain ⟨a, rfl, h⟩ := h
  exact .tup (SqT.of h) (.cons (.int _) (.cons (.int _) .nil))
theorem dp_Zs {K : PySem.W.Frag} {H : Hp} : ∀ {vs : List V} {zs : List (Nat × Nat)}, Paired (fun v (z : Nat × Nat) => TI H v [(z.1 : Int), (z.2 : Int)]) vs zs → DpAll K H vs (zs.map encZ)
  | _, _, .nil => .nil
  | _, _, .cons h t => .cons (dp_Z h) (dp_Zs t)
theorem canLay_Zs : ∀ zs : List (Nat × Nat), PyData.canLayAll0 (zs.map encZ) = true
  | [] => by simp [PyData.canLayAll0]
  | z :: zs => by
    have := canLay_Zs zs
    rw [List.map_cons]
    simp only [PyData.canLayAll0, encZ, PyData.canLay0, this]
    rfl
theorem depth_Zs : ∀ zs : List (Nat × Nat), PyData.depthAll (zs.map encZ) ≤ 3
  | [] => by rw [List.map_nil]; simp [PyData.depthAll]
  | z :: zs => by
    have h1 := depth_Zs zs
    rw [List.map_cons]
    simp only [PyData.depthAll, encZ, PyData.depth]
    omega
theorem shaped_Z (z : Nat × Nat) : SeqAt.shaped (encZ z) = true := by
  refine dand ?_ (decide_eq_true ?_)
  · simp [encZ, PyData.canLay0, PyData.canLayAll0]
  · simp [encZ, PyData.depth, PyData.depthAll]
theorem shaped_Zs (zs : List (Nat × Nat)) : SeqAt.shaped (.list (zs.map encZ)) = true := by
  have h := depth_Zs zs
  refine dand (by show PyData.canLay0 (.list (zs.map encZ)) = true; simp only [PyData.canLay0]; exact canLay_Zs zs) (decide_eq_true ?_)
  simp only [PyData.depth]
  omega
theorem eqv_Z (a b : Nat × Nat) : PyData.eqv (encZ a) (encZ b) = true ↔ a = b := by
  obtain ⟨a1, a2⟩ := a
  obtain ⟨b1, b2⟩ := b
  simp [encZ, PyData.eqv, PyData.eqvAll]
  omega
theorem any_Z {zs : List (Nat × Nat)} {w : Nat × Nat} : ((zs.map encZ).any fun z => PyData.eqv z (encZ w)) = true ↔ w ∈ zs := by
  rw [List.any_map, List.any_eq_true]
  constructor
  · rintro ⟨z, hz, e⟩
    rw [← (eqv_Z z w).mp e]
    exact hz
  · intro h
    exact ⟨w, h, (eqv_Z w w).mpr rfl⟩
def Rows (H : Hp) (F : Addr) (Gs : List (List Int)) : Prop := ∃ fs, H F = some (.lst fs) ∧ Paired (fun v L => TI H v L) fs Gs
theorem Rows.up {H H' : Hp} {F : Addr} {Gs : List (List Int)} (h : Rows H F Gs) (s : Same H H') : Rows H' F Gs := by
  obtain ⟨fs, h1, h2⟩ := h
  exact ⟨fs, s _ _ h1, prd_imp h2 fun _ _ q => q.up (kp s)⟩
/-! _law_some_stand: slots 0=_law_sizes_here 1=_law_width_here 2=_law_pairs 3=_law_rows 4=_law_box 5=_law_longer 6=_law_row 7=_law_edge 8=_law_fine 9=_law_elder 10=_law_place -/
def sp_law_some_stand : Sp := fun vs H Q _ => ∃ (u : V) (width : Int) (D : Addr) (ws : List V) (ss : List (Int × Int)) (zs : List (Nat × Nat)), vs = [u, .int width, .ref D] ∧ TP H u ss ∧ ss.length ≤ 4 ∧ width ≤ 6 ∧ (∀ x, x < ss.length → 1 ≤ wd ss x ∧ wd ss x ≤ 1000000) ∧ -1000000 ≤ width ∧ LP H D ws zs ∧ (∀ z ∈ zs, z.1 < z.2) ∧
  ∀ H' b, Same H H' → (b = true ↔ ∃ L, Pref (wd ss) width zs ss.length L) → Q (.bl b) H'
theorem sc_law_some_stand : FnScope ["_law_sizes_here", "_law_width_here", "_law_pairs", "_law_rows", "_law_box", "_law_longer", "_law_row", "_law_edge", "_law_fine", "_law_elder", "_law_place"] ["_law_sizes_here", "_law_width_here", "_law_pairs"] (defScope (top 78)) := ⟨rfl, rfl, rfl, by decide +kernel, rfl, by decide +kernel, by decide +kernel⟩
theorem ok_law_some_stand {P : Program} {w : World} {K : PySem.W.Frag} {mg : Str → Option Value} {base : Heap} (T : Tx K mg) : Fn P w K mg base "_law_some_stand" 2 ["_law_sizes_here", "_law_width_here", "_law_pairs"] (sp_law_some_stand) := by
  refine mkFn (k := 1) T.t__law_some_stand sc_law_some_stand (fun vs H Q E h => ?_) (fun _ _ _ _ _ _ us hl => match us, hl with | [_, _, _], _ => rfl) (fun f cdv A outer s H vs Q E hr h => ?_)
  · obtain ⟨u, width, D, ws, ss, zs, rfl, ⟨ta, tv, rfl, ht, hP⟩, h4, hw, hW, hw0, ⟨hD, hLz⟩, hz, k⟩ := h <;> rfl
  · refine ⟨_, (pss_cons (ps_set (i := 3) sc_law_some_stand.nd rfl (by first | exact Or.inl rfl | exact Or.inr rfl) (pe_lst (pa_cons (pe_tup pa_nil) pa_nil)))
        (pss_cons (ps_for PassesOwn.never rfl (pi_range1 rfl T.f_range (pa_cons (pe_callB (k_len (K := K) rfl) rfl T.f_len b_len (pa_cons (pv 0) pa_nil)) pa_nil)) (pg_name (i := 4) sc_law_some_stand.nd rfl (by first | exact Or.inl rfl | exact Or.inr rfl)) (pss_cons (ps_set (i := 5) sc_law_some_stand.nd rfl (by first | exact Or.inl rfl | exact Or.inr rfl) (pe_lst pa_nil))
        (pss_cons (ps_for PassesOwn.never rfl (k_pl (K := K) rfl (pv 3)) (pg_name (i := 6) sc_law_some_stand.nd rfl (by first | exact Or.inl rfl | exact Or.inr rfl)) (pss_one (ps_for PassesOwn.never rfl (pi_range1 rfl T.f_range (pa_cons (pe_op op_add (pe_op op_sub (pv 1) (pe_ix (k_ixT (K := K) rfl) (pe_ix (k_ixT (K := K) rfl) (pv 0) (pv 4) (fun _ _ => rfl)) pe_int (fun _ _ => rfl))) pe_int) pa_nil)) (pg_name (i := 7) sc_law_some_stand.nd rfl (by first | exact Or.inl rfl | exact Or.inr rfl)) (pss_cons (ps_set (i := 8) sc_law_some_stand.nd rfl (by first | exact Or.inl rfl | exact Or.inr rfl) pe_bl)
        (pss_cons (ps_for PassesOwn.never rfl (k_enum (K := K) rfl rfl T.f_enumerate (pa_cons (pv 6) pa_nil)) (pg_tup rfl (pgs_cons (pg_name (i := 9) sc_law_some_stand.nd rfl (by first | exact Or.inl rfl | exact Or.inr rfl)) (pgs_cons (pg_name (i := 10) sc_law_some_stand.nd rfl (by first | exact Or.inl rfl | exact Or.inr rfl)) pgs_nil))) (pss_one (ps_if (PW.pt (pw_and (pt_cmpR (k_inD (K := K) rfl (room65 hr)) (pe_tup (pa_cons (pv 9) (pa_cons (pv 4) pa_nil))) (pv 2) rfl) (pw_and (pt_cmpR op_lt (pv 10) (pe_op op_add (pv 7) (pe_ix (k_ixT (K := K) rfl) (pe_ix (k_ixT (K := K) rfl) (pv 0) (pv 4) (fun _ _ => rfl)) pe_int (fun _ _ => rfl))) (nomark _)) (pw_and1 (pt_cmpR op_lt (pv 7) (pe_op op_add (pv 10) (pe_ix (k_ixT (K := K) rfl) (pe_ix (k_ixT (K := K) rfl) (pv 0) (pv 9) (fun _ _ => rfl)) pe_int (fun _ _ => rfl))) (nomark _)))))) (pss_one (ps_set (i := 8) sc_law_some_stand.nd rfl (by first | exact Or.inl rfl | exact Or.inr rfl) pe_bl)) pss_nil)))
        (pss_one (ps_if (pt_val (pv 8)) (pss_one (ps_expr (k_bm (K := K) rfl PySem.F.plainAttrs_list PySem.F.slot_list_append PySem.F.type_list_append mt_append (pv 5) (pa_cons (pe_op (k_cat (K := K) rfl) (pv 6) (pe_tup (pa_cons (pv 7) pa_nil))) pa_nil)))) pss_nil)))))))
        (pss_one (ps_set (i := 3) sc_law_some_stand.nd rfl (by first | exact Or.inl rfl | exact Or.inr rfl) (pv 5))))))
        (pss_one (ps_ret (pe_cmpR op_gt (pe_callB (k_len (K := K) rfl) rfl T.f_len b_len (pa_cons (pv 3) pa_nil)) pe_int (nomark _)))))), ?_⟩
    obtain ⟨u, width, D, ws, ss, zs, rfl, ⟨ta, tv, rfl, ht, hP⟩, h4, hw, hW, hw0, ⟨hD, hLz⟩, hz, k⟩ := h
    have lw := Paired.length hP
    refine ⟨Nat.zero_le _, fun t0 n0 => ⟨by show 1 ≤ sizeLine; decide, fun R0 nR0 => ?_⟩⟩
    have s0 := (sn (o := .tup []) n0).trans (sn (o := .lst [.ref t0]) nR0)
    refine ⟨_, rfl, ta, tv, rfl, .inr (SqT.of (s0 _ _ ht)), _, rfl, by omega, by omega, for_it (walk_rgk (m := ss.length) (by omega)) (fun i σ H' => ∃ R Ls v4 v5 v6 v7 v8 v9 v10, σ = [some (.ref ta), some (.int width), some (.ref D), some (.ref R), v4, v5, v6, v7, v8, v9, v10] ∧ Same H H' ∧ Rows H' R Ls ∧ Ls.length ≤ 7 ^ i ∧ ∀ L, L ∈ Ls ↔ Pref (wd ss) width zs i L)
      ⟨R0, [[]], none, none, none, none, none, none, none, rfl, s0, ⟨_, upd_same, .cons ⟨t0, rfl, sn nR0 _ _ upd_same⟩ .nil⟩, Nat.le_refl _, fun L => ?_⟩ (fun _ _ _ _ _ => True.intro) (fun i x σ H1 H1' hi p y => ?_) (fun σ H1 p => ?_)⟩
    · rw [List.mem_singleton]
      constructor
      · rintro rfl
        exact ⟨rfl, fun x hx => absurd hx (Nat.not_lt_zero _), fun z _ hx => absurd hx (Nat.not_lt_zero _)⟩
      · rintro ⟨h, _⟩
        exact List.length_eq_zero_iff.mp h
    · obtain ⟨R, Ls, v4, v5, v6, v7, v8, v9, v10, rfl, s1, hR, hLl, hLs⟩ := p
      obtain ⟨rfl, rfl⟩ := y
      have p7 : 7 ^ i ≤ 343 := Nat.le_trans (Nat.pow_le_pow_right (by decide) (show i ≤ 3 by omega)) (by decide)
      refine ⟨Nat.zero_le _, fun F nF => ?_⟩
      have sF := sn (o := .lst []) nF
      obtain ⟨rs, hRl, hRp⟩ := id hR
      have lr := Paired.length hRp
      refine ⟨_, rfl, R, rfl, ⟨_, SqL.of (sF _ _ hRl)⟩, for_it (walk_listn (n := Ls.length) lr) (fun m σ H' => ∃ Gs v6 v7 v8 v9 v10, σ = [some (.ref ta), some (.int width), some (.ref D), some (.ref R), some (.int (i : Nat)), some (.ref F), v6, v7, v8, v9, v10] ∧ Same H1' H' ∧ Rows H' F Gs ∧ Gs.length ≤ m * 7 ∧ ∀ G, G ∈ Gs ↔ ∃ k L e, k < m ∧ Ls[k]? = some L ∧ G = L ++ [e] ∧ Good (wd ss) width zs i L e)
        ⟨[], v6, v7, v8, v9, v10, rfl, sF, ⟨[], upd_same, .nil⟩, Nat.zero_le _, fun G => ⟨fun h => (by cases h), fun ⟨k, _, _, h, _⟩ => absurd h (Nat.not_lt_zero _)⟩⟩ (fun m σ H' _ p => ?_) (fun m x σ H2 H2' hm p y => ?_) (fun σ H2 p => ?_)⟩
      · obtain ⟨_, _, _, _, _, _, _, s2, _⟩ := p
        exact SqL.of (s2 _ _ hRl)
      · obtain ⟨Gs, v6, v7, v8, v9, v10, rfl, s2, hF, hGl, hGs⟩ := p
        obtain ⟨rfl, hxr⟩ := y
        obtain ⟨L, eL⟩ := at_lt (l := Ls) (i := m) hm
        obtain ⟨x', g1, ra, rfl, hra⟩ := prd_get hRp eL
        cases Option.some.inj (g1.symm.trans hxr)
        have hPref := (hLs L).mp (List.mem_of_getElem? eL)
        have lL := hPref.1
        have s12 := s1.trans s2
        obtain ⟨_, f1, c1, rfl, h1⟩ := prd_get hP (ss_at hi)
        have hWi := hW i hi
        refine ⟨_, rfl, _, rfl, _, rfl, ta, _, _, _, rfl, rfl, SqT.of (s12 _ _ ht), atI_nat f1, c1, _, 0, _, rfl, rfl, SqT.of (s12 _ _ h1), atI_nat (j := 0) rfl, _, _, rfl, rfl, _, _, rfl, rfl, _, rfl, by show -_ ≤ width - wd ss i + 1; omega, by show width - wd ss i + 1 < _; omega, ?_⟩
        refine for_it (walk_rgk (m := (width - wd ss i + 1).toNat) rfl) (fun e σ H' => ∃ Gs v7 v8 v9 v10, σ = [some (.ref ta), some (.int width), some (.ref D), some (.ref R), some (.int (i : Nat)), some (.ref F), some (.ref ra), v7, v8, v9, v10] ∧ Same H1' H' ∧ Rows H' F Gs ∧ Gs.length ≤ m * 7 + e ∧ ∀ G, G ∈ Gs ↔ (∃ k L e, k < m ∧ Ls[k]? = some L ∧ G = L ++ [e] ∧ Good (wd ss) width zs i L e) ∨ ∃ e' : Nat, e' < e ∧ G = L ++ [(e' : Int)] ∧ Good (wd ss) width zs i L e')
          ⟨Gs, v7, v8, v9, v10, rfl, s2, hF, hGl, fun G => ?_⟩ (fun _ _ _ _ _ => True.intro) (fun e x σ H3 H3' he p y => ?_) (fun σ H3 p => ?_)
        · rw [hGs]
          constructor
          · exact .inl
          · rintro (h | ⟨_, h, _⟩)
            · exact h
            · exact absurd h (Nat.not_lt_zero _)
        · obtain ⟨Gs, v7, v8, v9, v10, rfl, s3, hF, hGl, hGs⟩ := p
          obtain ⟨rfl, rfl⟩ := y
          have s13 := s1.trans s3
          have hra3 := s3 _ _ hra
          refine ⟨_, rfl, ra, _, rfl, SqT.of hra3, for_it (walk_enumT (xs := L.map V.int)) (fun q σ H' => ∃ f v9 v10, σ = [some (.ref ta), some (.int width), some (.ref D), some (.ref R), some (.int (i : Nat)), some (.ref F), some (.ref ra), some (.int (e : Nat)), some (.bl f), v9, v10] ∧ Same H3' H' ∧ (f = true ↔ ∀ r, r < q → (r, i) ∈ zs → ¬ (L.getD r 0 < (e : Int) + wd ss i ∧ (e : Int) < L.getD r 0 + wd ss r)))
            ⟨true, v9, v10, rfl, Same.refl _, ⟨fun _ r h => absurd h (Nat.not_lt_zero _), fun _ => rfl⟩⟩ (fun q σ H' _ p => ?_) (fun q x σ H4 H5 hq p y => ?_) (fun σ H4 p => ?_)⟩
          · obtain ⟨_, _, _, _, s4, _⟩ := p
            exact SqT.of (s4 _ _ hra3)
          · obtain ⟨f, v9, v10, rfl, s4, hf⟩ := p
            obtain ⟨U, x1, x2, rfl, nU, rfl, y1, y2⟩ := y
            cases Option.some.inj y1
            rw [List.length_map] at hq
            cases Option.some.inj (y2.symm.trans (getDV_at (L := L) (x := q) hq))
            have sU := sn (o := .tup [.int (q : Nat), .int (L.getD q 0)]) nU
            have s4U := s4.trans sU
            refine ⟨U, _, rfl, SqT.of upd_same, rfl, _, _, rfl, _, _, rfl, rfl, ?_⟩
            refine ⟨_, rfl, _, rfl, by show 2 ≤ sizeLine; decide, fun t nt => ?_⟩
            have st := sn (o := .tup [.int (q : Nat), .int (i : Nat)]) nt
            have s5 := s4U.trans st
            have s15 := s13.trans s5
            have step : ∀ P : Prop, (P ↔ ((q, i) ∈ zs → ¬ (L.getD q 0 < (e : Int) + wd ss i ∧ (e : Int) < L.getD q 0 + wd ss q))) → (((∀ r, r < q → (r, i) ∈ zs → ¬ (L.getD r 0 < (e : Int) + wd ss i ∧ (e : Int) < L.getD r 0 + wd ss r)) ∧ P) ↔ ∀ r, r < q + 1 → (r, i) ∈ zs → ¬ (L.getD r 0 < (e : Int) + wd ss i ∧ (e : Int) < L.getD r 0 + wd ss r)) := fun P hPq => by
              constructor
              · rintro ⟨a1, a2⟩ r hr
                by_cases er : r = q
                · subst er
                  exact hPq.mp a2
                · exact a1 r (by omega)
              · intro a
                exact ⟨fun r hr => a r (by omega), hPq.mpr (a q (by omega))⟩
            refine ⟨_, rfl, encZ (q, i), zs.map encZ, dp_Z ⟨t, rfl, upd_same⟩, .lst (SqL.of (s15 _ _ hD)) (dp_Zs (prd_imp hLz fun _ _ h => h.up (kp s15))), shaped_Z _, shaped_Zs _, _, rfl, ite2 (fun b1 => ?_) (fun b1 => ?_)⟩
            · have m1 := any_Z.mp b1
              obtain ⟨_, f2, c2, rfl, h2⟩ := prd_get hP (ss_at (x := q) (by omega))
              refine ⟨_, rfl, _, rfl, _, rfl, _, rfl, ta, _, _, _, rfl, rfl, SqT.of (s15 _ _ ht), atI_nat f1, c1, _, 0, _, rfl, rfl, SqT.of (s15 _ _ h1), atI_nat (j := 0) rfl, _, _, rfl, rfl, _, _, rfl, rfl, _, rfl, ite2 (fun b2 => ?_) (fun b2 => ?_)⟩
              · have d2 := of_decide_eq_true b2
                refine ⟨_, rfl, _, rfl, _, rfl, _, rfl, ta, _, _, _, rfl, rfl, SqT.of (s15 _ _ ht), atI_nat f2, c2, _, 0, _, rfl, rfl, SqT.of (s15 _ _ h2), atI_nat (j := 0) rfl, _, _, rfl, rfl, _, _, rfl, rfl, _, rfl, ite2 (fun b3 => ?_) (fun b3 => ?_)⟩
                · have d3 := of_decide_eq_true b3
                  refine ⟨false, _, _, rfl, s5, ⟨fun z => (by cases z), fun z => ?_⟩⟩
                  exact absurd ⟨d2, d3⟩ (z q (by omega) m1)
                · refine ⟨f, _, _, rfl, s5, ?_⟩
                  rw [hf, ← step True ⟨fun _ _ z => b3 (decide_eq_true z.2), fun _ => True.intro⟩, and_true]
              · refine ⟨f, _, _, rfl, s5, ?_⟩
                rw [hf, ← step True ⟨fun _ _ z => b2 (decide_eq_true z.1), fun _ => True.intro⟩, and_true]
            · refine ⟨f, _, _, rfl, s5, ?_⟩
              rw [hf, ← step True ⟨fun _ z => absurd (any_Z.mpr z) b1, fun _ => True.intro⟩, and_true]
          · obtain ⟨f, v9, v10, rfl, s4, hf⟩ := p
            rw [List.length_map] at hf
            have hin : 0 ≤ (e : Int) ∧ (e : Int) ≤ width - wd ss i := by omega
            have hgood : f = true ↔ Good (wd ss) width zs i L e := by
              unfold Good
              rw [hf]
              exact ⟨fun z => ⟨hin, z⟩, fun z => z.2⟩
            have ext : ∀ G, ((∃ k L e, k < m ∧ Ls[k]? = some L ∧ G = L ++ [e] ∧ Good (wd ss) width zs i L e) ∨ ∃ e' : Nat, e' < e + 1 ∧ G = L ++ [(e' : Int)] ∧ Good (wd ss) width zs i L e') ↔ ((∃ k L e, k < m ∧ Ls[k]? = some L ∧ G = L ++ [e] ∧ Good (wd ss) width zs i L e) ∨ ∃ e' : Nat, e' < e ∧ G = L ++ [(e' : Int)] ∧ Good (wd ss) width zs i L e') ∨ (G = L ++ [(e : Int)] ∧ Good (wd ss) width zs i L e) := fun G => by
              constructor
              · rintro (h | ⟨e', h1, h2, h3⟩)
                · exact .inl (.inl h)
                · by_cases ee : e' = e
                  · subst ee
                    exact .inr ⟨h2, h3⟩
                  · exact .inl (.inr ⟨e', by omega, h2, h3⟩)
              · rintro ((h | ⟨e', h1, h2, h3⟩) | ⟨h2, h3⟩)
                · exact .inl h
                · exact .inr ⟨e', by omega, h2, h3⟩
                · exact .inr ⟨e, by omega, h2, h3⟩
            have s34 := s3.trans s4
            have hF4 := hF.up s4
            refine ⟨_, rfl, _, rfl, ite2 (fun b1 => ?_) (fun b1 => ?_)⟩
            · obtain ⟨fs, hFl, hFp⟩ := hF4
              have e6 : e ≤ 6 := by omega
              have lg := Paired.length hFp
              have m7 : m * 7 ≤ 2401 := by omega
              refine ⟨_, rfl, .inl ⟨rfl, _, SqL.of hFl⟩, _, rfl, _, rfl, by show 1 ≤ sizeLine; decide, fun c nc => ?_⟩
              have tc := sn (o := .tup [.int (e : Nat)]) nc
              refine catA_one (tc _ _ (s4 _ _ hra3)) upd_same (by rw [List.length_map]; have := sizeLine_eq; omega) fun H6 c6 s6 h6 => ?_
              have s46 := tc.trans s6
              have hF6 := s46 _ _ hFl
              have k6 := kpL (ys := fs ++ [.ref c6]) hF6
              have nc6 : c6 ≠ F := fun z => by
                rw [z, hF6] at h6
                cases h6
              refine ⟨F, fs, _, rfl, rfl, hF6, lt_line (by omega), Gs ++ [L ++ [(e : Int)]], _, _, _, _, rfl, same_mut (s34.trans s46) nF, ⟨fs ++ [.ref c6], upd_same, (prd_imp hFp fun _ _ h => (h.up (kp s46)).up k6).snoc ⟨c6, rfl, ?_⟩⟩, by rw [List.length_append, List.length_singleton]; omega, fun G => ?_⟩
              · rw [upd_ne nc6, h6, List.map_append]
                rfl
              · rw [List.mem_append, List.mem_singleton, hGs, ext]
                constructor
                · rintro (h | h)
                  · exact .inl h
                  · exact .inr ⟨h, hgood.mp b1⟩
                · rintro (h | h)
                  · exact .inl h
                  · exact .inr h.1
            · refine ⟨Gs, _, _, _, _, rfl, s34, hF4, by omega, fun G => ?_⟩
              rw [hGs, ext]
              constructor
              · exact .inl
              · rintro (h | h)
                · exact h
                · exact absurd (hgood.mpr h.2) b1
        · obtain ⟨Gs, v7, v8, v9, v10, rfl, s3, hF, hGl, hGs⟩ := p
          refine ⟨Gs, _, _, _, _, _, rfl, s3, hF, by omega, fun G => ?_⟩
          rw [hGs]
          constructor
          · rintro (⟨k2, L2, e2, q1, q2, q3, q4⟩ | ⟨e', q1, q2, q3⟩)
            · exact ⟨k2, L2, e2, by omega, q2, q3, q4⟩
            · exact ⟨m, L, e', by omega, eL, q2, q3⟩
          · rintro ⟨k2, L2, e2, q1, q2, q3, q4⟩
            by_cases em : k2 = m
            · subst em
              cases Option.some.inj (q2.symm.trans eL)
              right
              refine ⟨e2.toNat, ?_, ?_, ?_⟩
              · have := q4.1
                omega
              · rw [q3, Int.toNat_of_nonneg q4.1.1]
              · rw [Int.toNat_of_nonneg q4.1.1]
                exact q4
            · exact .inl ⟨k2, L2, e2, by omega, q2, q3, q4⟩
      · obtain ⟨Gs, v6, v7, v8, v9, v10, rfl, s2, hF, hGl, hGs⟩ := p
        refine ⟨_, rfl, F, Gs, _, _, _, _, _, _, _, rfl, s1.trans s2, hF, by rw [Nat.pow_succ]; omega, fun G => ?_⟩
        rw [hGs, pref_ext hz]
        constructor
        · rintro ⟨k2, L2, e2, q1, q2, q3, q4⟩
          exact ⟨L2, e2, q3, (hLs L2).mp (List.mem_of_getElem? q2), q4⟩
        · rintro ⟨L2, e2, q3, q5, q4⟩
          obtain ⟨k2, hk2⟩ := List.mem_iff_getElem?.mp ((hLs L2).mpr q5)
          exact ⟨k2, L2, e2, lt_at hk2, hk2, q3, q4⟩
    · obtain ⟨R, Ls, v4, v5, v6, v7, v8, v9, v10, rfl, s1, ⟨rs, hRl, hRp⟩, hLl, hLs⟩ := p
      have lr := Paired.length hRp
      refine ⟨_, rfl, R, rs, rfl, .inl (SqL.of hRl), _, _, rfl, rfl, k H1 _ s1 ?_⟩
      have et : (((tv.length : Nat) : Int).toNat) = ss.length := by omega
      constructor
      · intro z
        have z2 : (0 : Int) < (rs.length : Nat) := of_decide_eq_true z
        obtain ⟨L, hL⟩ := at_lt (l := Ls) (i := 0) (by omega)
        exact ⟨L, (hLs L).mp (List.mem_of_getElem? hL)⟩
      · rintro ⟨L, hL⟩
        have m := (hLs L).mpr hL
        have := List.length_pos_of_mem m
        exact decide_eq_true (by show (0 : Int) < (rs.length : Nat); omega)
end K20

namespace K20
open PySem PySem.Spec PyProof.Rows L2
theorem NT.up {H H' : Hp} {v : V} (h : NT H v) (k : Kp H H') : NT H' v := by
  refine ⟨h.1.up k, fun a xs e q => ?_⟩
  subst e
  cases h.1 with
  | lst e =>
    obtain ⟨ys, e2⟩ := k.lst e
    rw [e2] at q
    cases q
  | tup e => exact h.2 _ _ rfl e
  | dK e =>
    obtain ⟨ys, e2⟩ := k.dK e
    rw [e2] at q
    cases q
theorem Th.up {H H' : Hp} {v : V} (h : Th H v) (k : Kp H H') : Th H' v := by
  rcases h with ⟨a, xs, e, h, hk⟩ | h
  · exact .inl ⟨a, xs, e, k.tup h, fun x hx => (hk x hx).up k⟩
  · exact .inr (h.up k)
theorem Th.kd {H : Hp} {v : V} (h : Th H v) : Kd H v := by
  rcases h with ⟨a, xs, rfl, h, _⟩ | h
  · exact .tup h
  · exact h.1
theorem th_nr {H : Hp} {v : V} (h : Kd H v) (n : ∀ a, v ≠ .ref a) : Th H v := .inr ⟨h, fun a _ e => absurd e (n a)⟩
theorem th_lst {H : Hp} {a : Addr} {xs : List V} (h : H a = some (.lst xs)) : Th H (.ref a) := .inr ⟨.lst h, fun b ys e q => by
  cases e
  rw [h] at q
  cases q⟩
theorem th_dK {H : Hp} {a : Addr} {xs : List (Key × V)} (h : H a = some (.dK xs)) : Th H (.ref a) := .inr ⟨.dK h, fun b ys e q => by
  cases e
  rw [h] at q
  cases q⟩
theorem th_tup {H : Hp} {a : Addr} {xs : List V} (h : H a = some (.tup xs)) (k : ∀ x ∈ xs, Kd H x) : Th H (.ref a) := .inl ⟨a, xs, rfl, h, k⟩
theorem al0 {P : V → Prop} : ∀ x ∈ ([] : List V), P x := fun x h => by cases h
theorem alc {P : V → Prop} {a : V} {l : List V} (h : P a) (t : ∀ x ∈ l, P x) : ∀ x ∈ a :: l, P x := fun x hx => by
  rcases List.mem_cons.mp hx with e | hx
  · rw [e]
    exact h
  · exact t x hx
theorem ala {P : V → Prop} {l m : List V} (h : ∀ x ∈ l, P x) (t : ∀ x ∈ m, P x) : ∀ x ∈ l ++ m, P x := fun x hx => by
  rcases List.mem_append.mp hx with e | hx
  · exact h x e
  · exact t x hx
theorem cut_mem {xs : List V} {lo hi : Option Int} {x : V} (h : x ∈ cutV xs lo hi) : x ∈ xs := List.mem_of_mem_drop (List.mem_of_mem_take h)
theorem not_nr {v : V} (h : match v with | .ref _ => False | _ => True) : ∀ a, v ≠ .ref a := fun a e => by
  subst e
  exact h
/-! _law_deep: slots 0=_law_hand_here 1=_law_found 2=_law_turn -/
def sp_law_deep : Sp := fun vs H Q _ => ∃ (hd ce : Addr), vs = [.ref hd] ∧ Hd H hd ce ∧ ∀ H' v, Dr hd ce H H' → Th H' v → Q v H'
theorem sc_law_deep : FnScope ["_law_hand_here", "_law_found", "_law_turn"] ["_law_hand_here"] (defScope (top 67)) := ⟨rfl, rfl, rfl, by decide +kernel, rfl, by decide +kernel, by decide +kernel⟩
theorem ok_law_deep {P : Program} {w : World} {K : PySem.W.Frag} {mg : Str → Option Value} {base : Heap} (T : Tx K mg) : Fn P w K mg base "_law_deep" 2 ["_law_hand_here"] (sp_law_deep) := by
  refine mkFn (k := 1) T.t__law_deep sc_law_deep (fun vs H Q E h => ?_) (fun _ _ _ _ _ _ us hl => match us, hl with | [_], _ => rfl) (fun f cdv A outer s H vs Q E hr h => ?_)
  · obtain ⟨hd, ce, rfl, hH, k⟩ := h <;> rfl
  · refine ⟨_, (pss_cons (ps_set (i := 1) sc_law_deep.nd rfl (by first | exact Or.inl rfl | exact Or.inr rfl) (pe_ix (k_ixL (K := K) rfl) (pe_lst (pa_cons pe_non (pa_cons pe_str (pa_cons (pe_un un_neg pe_int) (pa_cons pe_dnewK pa_nil))))) (cl (ok_law_draw T) (hr.mono (by decide)) rfl (pa_cons (pv 0) (pa_cons pe_int pa_nil))) (fun _ _ => rfl)))
        (pss_cons (ps_for PassesOwn.never rfl (pi_range1 rfl T.f_range (pa_cons (pe_op op_add pe_int (cl (ok_law_draw T) (hr.mono (by decide)) rfl (pa_cons (pv 0) (pa_cons pe_int pa_nil)))) pa_nil)) (pg_name (i := 2) sc_law_deep.nd rfl (by first | exact Or.inl rfl | exact Or.inr rfl)) (pss_one (ps_set (i := 1) sc_law_deep.nd rfl (by first | exact Or.inl rfl | exact Or.inr rfl) (pe_ix (k_ixL (K := K) rfl) (pe_lst (pa_cons (pe_tup (pa_cons (pv 1) pa_nil)) (pa_cons (pe_lst (pa_cons (pv 1) pa_nil)) (pa_cons (pe_slice (k_slT (K := K) rfl) (pe_tup (pa_cons (pv 1) (pa_cons (pv 1) pa_nil))) po_none (po_some pe_int)) (pa_cons (pe_disp (pps_cons pe_int (pv 1) pps_nil) (by rfl) (by rfl) (fun z => by cases z) (by decide)) pa_nil))))) (cl (ok_law_draw T) (hr.mono (by decide)) rfl (pa_cons (pv 0) (pa_cons pe_int pa_nil))) (fun _ _ => rfl)))))
        (pss_one (ps_ret (pv 1))))), ?_⟩
    obtain ⟨hd, ce, rfl, hH, k⟩ := h
    refine ⟨_, rfl, fun d nd => ⟨by show 4 ≤ sizeLine; decide, fun l nl => ?_⟩⟩
    have t1 := sn (o := .dK []) nd
    have t2 := sn (o := .lst [.non, .str "a", .int (-1), .ref d]) nl
    have d2 := Dr.of hH (t1.trans t2)
    refine ⟨_, rfl, hd, ce, 4, rfl, by decide, by decide, d2.b, fun H1 kk s1 hk => ?_⟩
    have nl1 := (hH.ne (nof t1 nl)).1
    obtain ⟨v, ev⟩ := at_lt (l := [V.non, .str "a", .int (-1), .ref d]) (i := kk) (by show kk < 4; omega)
    have hv : Th H1 v := by
      have hdd : Th H1 (.ref d) := (th_dK (t2 _ _ upd_same)).up s1.kp
      have q : ∀ x ∈ [V.non, .str "a", .int (-1), .ref d], Th H1 x := alc (th_nr .non (not_nr True.intro)) (alc (th_nr (.str _) (not_nr True.intro)) (alc (th_nr (.int _) (not_nr True.intro)) (alc hdd al0)))
      exact q v (List.mem_of_getElem? ev)
    refine ⟨l, _, (kk : Nat), v, rfl, rfl, SqL.of (s1.lst nl1 upd_same), atI_nat ev, ?_⟩
    refine ⟨_, rfl, hd, ce, 30, rfl, by decide, by decide, s1.b, fun H2 m s2 hm => ⟨_, _, rfl, rfl, _, rfl, by omega, by omega, ?_⟩⟩
    refine for_it (walk_rgk (m := (1 + (m : Int)).toNat) rfl) (fun i σ H' => ∃ v v2, σ = [some (.ref hd), some v, v2] ∧ Dr hd ce H H' ∧ Th H' v)
      ⟨v, none, rfl, (d2.trans s1).trans s2, hv.up s2.kp⟩ (fun _ _ _ _ _ => True.intro) (fun i x σ H3 H4 hi p y => ?_) (fun σ H3 p => ?_)
    · obtain ⟨v, v2, rfl, d3, hv⟩ := p
      obtain ⟨rfl, rfl⟩ := y
      refine ⟨_, rfl, by show 1 ≤ sizeLine; decide, fun p1 n1 => ⟨_, rfl, by show 1 ≤ sizeLine; decide, fun p2 n2 => ?_⟩⟩
      refine ⟨_, rfl, _, rfl, by show 2 ≤ sizeLine; decide, fun p3 n3 => ⟨_, rfl, p3, _, rfl, SqT.of upd_same, cut_lo_not (i := 1) (n := 2) (by decide), fun p4 n4 => fun p5 n5 => ?_⟩⟩
      refine ⟨_, rfl, upd_same, [(Sum.inl 0, v)], rfl, by show 1 ≤ 15; decide, by show 4 ≤ sizeLine; decide, fun l nl => ?_⟩
      have t1 := sn (o := .tup [v]) n1
      have t2 := sn (o := .lst [v]) n2
      have t3 := sn (o := .tup [v, v]) n3
      have t4 := sn (o := .tup (cutV [v, v] none (some 1))) n4
      have t5 := same_mut (o := .dK (mergeK [] [(Sum.inl 0, v)])) (sn (o := .dK []) n5) n5
      have t15 := ((((t1.trans t2).trans t3).trans t4).trans t5)
      have t6 := sn (o := .lst [.ref p1, .ref p2, .ref p4, .ref p5]) nl
      have d6 := (d3.same t15).same t6
      have nl1 := (hH.ne ((d3.same t15).nof nl)).1
      refine ⟨_, rfl, hd, ce, 4, rfl, by decide, by decide, d6.b, fun H5 kk s5 hk => ?_⟩
      obtain ⟨v9, ev⟩ := at_lt (l := [V.ref p1, .ref p2, .ref p4, .ref p5]) (i := kk) (by show kk < 4; omega)
      have kd := hv.kd
      have q : ∀ x ∈ [V.ref p1, .ref p2, .ref p4, .ref p5], Th H5 x := by
        refine alc ?_ (alc ?_ (alc ?_ (alc ?_ al0)))
        · exact (th_tup upd_same (alc (kd.up (kp t1)) al0)).up ((kp (((t2.trans t3).trans t4).trans (t5.trans t6))).trans s5.kp)
        · exact (th_lst upd_same).up ((kp ((t3.trans t4).trans (t5.trans t6))).trans s5.kp)
        · refine (th_tup upd_same fun x hx => ?_).up ((kp (t5.trans t6)).trans s5.kp)
          have h2 := cut_mem hx
          have e : x = v := by simpa using h2
          rw [e]
          exact kd.up (kp (((t1.trans t2).trans t3).trans t4))
        · exact (th_dK upd_same).up ((kp t6).trans s5.kp)
      refine ⟨l, _, (kk : Nat), v9, rfl, rfl, SqL.of (s5.lst nl1 upd_same), atI_nat ev, ?_⟩
      exact ⟨v9, _, rfl, d6.trans s5, q v9 (List.mem_of_getElem? ev)⟩
    · obtain ⟨v, v2, rfl, d3, hv⟩ := p
      exact ⟨_, rfl, k H3 v d3 hv⟩
theorem catA_any {K : PySem.W.Frag} {H : Hp} {a b : Addr} {xs ys : List V} {Q : VK} (ha : H a = some (.tup xs)) (hb : H b = some (.tup ys)) (hne : xs ≠ []) (hz : xs.length + ys.length ≤ sizeLine) (q : ∀ H' c, Same H H' → H' c = some (.tup (xs ++ ys)) → Q (.ref c) H') : rCatA K (.ref a) (.ref b) H Q :=
  ⟨a, b, xs, ys, rfl, rfl, SqT.of ha, SqT.of hb, hz, fun e => absurd e hne, (fun _ e => q _ _ (Same.refl _) (by rw [e, List.append_nil]; exact ha)), fun _ _ p np => q _ _ (sn np) upd_same⟩
theorem cut_hi_not {n i : Nat} {hi : Option Int} (h : 1 ≤ n) : ¬ (HT.sIx n 0 (some ((i + 1 : Nat) : Int)) = 0 ∧ HT.sIx n n hi = n) := fun z => by
  have := z.1
  rw [HT.sIx_nat] at this
  omega
/-! _law_bent: slots 0=_law_hand_here 1=_law_edges 2=_law_width_here 3=_law_at 4=_law_thing 5=_law_odd -/
def sp_law_bent : Sp := fun vs H Q _ => ∃ (hd ce : Addr) (v : V) (L : List Int) (width : Int), vs = [.ref hd, v, .int width] ∧ TI H v L ∧ 1 ≤ L.length ∧ L.length ≤ 40 ∧ Hd H hd ce ∧ ∀ H' z, Dr hd ce H H' → Th H' z → Q z H'
theorem sc_law_bent : FnScope ["_law_hand_here", "_law_edges", "_law_width_here", "_law_at", "_law_thing", "_law_odd"] ["_law_hand_here", "_law_edges", "_law_width_here"] (defScope (top 79)) := ⟨rfl, rfl, rfl, by decide +kernel, rfl, by decide +kernel, by decide +kernel⟩
theorem ok_law_bent {P : Program} {w : World} {K : PySem.W.Frag} {mg : Str → Option Value} {base : Heap} (T : Tx K mg) : Fn P w K mg base "_law_bent" 3 ["_law_hand_here", "_law_edges", "_law_width_here"] (sp_law_bent) := by
  refine mkFn (k := 2) T.t__law_bent sc_law_bent (fun vs H Q E h => ?_) (fun _ _ _ _ _ _ us hl => match us, hl with | [_, _, _], _ => rfl) (fun f cdv A outer s H vs Q E hr h => ?_)
  · obtain ⟨hd, ce, v, L, width, rfl, ⟨la, rfl, hl⟩, h1, h40, hH, k⟩ := h <;> rfl
  · refine ⟨_, (pss_cons (ps_set (i := 3) sc_law_bent.nd rfl (by first | exact Or.inl rfl | exact Or.inr rfl) (cl (ok_law_draw T) (hr.mono (by decide)) rfl (pa_cons (pv 0) (pa_cons (pe_callB (k_len (K := K) rfl) rfl T.f_len b_len (pa_cons (pv 1) pa_nil)) pa_nil))))
        (pss_cons (ps_set (i := 4) sc_law_bent.nd rfl (by first | exact Or.inl rfl | exact Or.inr rfl) (pe_ix (k_ixL (K := K) rfl) (pe_lst (pa_cons (pe_op op_add (pe_ix (k_ixT (K := K) rfl) (pv 1) (pv 3) (fun _ _ => rfl)) pe_int) (pa_cons (pe_op op_sub (pe_ix (k_ixT (K := K) rfl) (pv 1) (pv 3) (fun _ _ => rfl)) pe_int) (pa_cons pe_int (pa_cons (pv 2) (pa_cons (pe_un un_neg pe_int) (pa_cons pe_bl (pa_cons pe_non (pa_cons pe_str (pa_cons (cl (ok_law_deep T) (hr.mono (by decide)) rfl (pa_cons (pv 0) pa_nil)) pa_nil)))))))))) (cl (ok_law_draw T) (hr.mono (by decide)) rfl (pa_cons (pv 0) (pa_cons pe_int pa_nil))) (fun _ _ => rfl)))
        (pss_cons (ps_set (i := 5) sc_law_bent.nd rfl (by first | exact Or.inl rfl | exact Or.inr rfl) (pe_lst (pa_cons (pe_op (k_cat (K := K) rfl) (pe_op (k_cat (K := K) rfl) (pe_slice (k_slT (K := K) rfl) (pv 1) po_none (po_some (pv 3))) (pe_tup (pa_cons (pv 4) pa_nil))) (pe_slice (k_slT (K := K) rfl) (pv 1) (po_some (pe_op op_add (pv 3) pe_int)) po_none)) (pa_cons (pe_op (k_cat (K := K) rfl) (pe_op (k_cat (K := K) rfl) (pe_slice (k_slT (K := K) rfl) (pv 1) po_none (po_some (pv 3))) (pe_tup (pa_cons (pv 4) pa_nil))) (pe_slice (k_slT (K := K) rfl) (pv 1) (po_some (pe_op op_add (pv 3) pe_int)) po_none)) (pa_cons (pe_callTy (k_list (K := K) rfl) rfl T.f_list b_list (pa_cons (pv 1) pa_nil)) (pa_cons (pe_slice (k_slT (K := K) rfl) (pv 1) (po_some pe_int) po_none) (pa_cons (k_revT (K := K) rfl (pv 1)) pa_nil)))))))
        (pss_one (ps_ret (pe_ix (k_ixL (K := K) rfl) (pe_op op_cat (pv 5) (pe_lst (pa_cons (pe_op (k_cat (K := K) rfl) (pv 1) (pe_tup (pa_cons pe_int pa_nil))) (pa_cons pe_non (pa_cons pe_dnewK (pa_cons pe_int (pa_cons pe_str (pa_cons (cl (ok_law_deep T) (hr.mono (by decide)) rfl (pa_cons (pv 0) pa_nil)) pa_nil)))))))) (cl (ok_law_draw T) (hr.mono (by decide)) rfl (pa_cons (pv 0) (pa_cons pe_int pa_nil))) (fun _ _ => rfl))))))), ?_⟩
    obtain ⟨hd, ce, v, L, width, rfl, ⟨la, rfl, hl⟩, h1, h40, hH, k⟩ := h
    have sz := sizeLine_eq
    have lm : (L.map V.int).length = L.length := List.length_map _
    refine ⟨_, rfl, _, rfl, la, _, rfl, .inr (SqT.of hl), hd, ce, _, rfl, by rw [lm]; omega, by rw [lm]; omega, hH, fun H1 at_ s1 hat => ?_⟩
    rw [lm] at hat
    have hat2 : at_ < L.length := by omega
    have hl1 := s1.kp.tup hl
    have ex := getDV_at (L := L) (x := at_) hat2
    refine ⟨_, rfl, _, rfl, la, _, _, _, rfl, rfl, SqT.of hl1, atI_nat ex, _, _, rfl, rfl, _, rfl, _, rfl, la, _, _, _, rfl, rfl, SqT.of hl1, atI_nat ex, _, _, rfl, rfl, _, rfl, _, rfl, _, rfl, hd, ce, rfl, s1.b, fun H2 v2 s2 hv2 => ⟨by show 9 ≤ sizeLine; decide, fun l nl => ?_⟩⟩
    have d2 := s1.trans s2
    have nl1 := (hH.ne (d2.nof nl)).1
    have t3 := sn (o := .lst [.int (L.getD at_ 0 + 1), .int (L.getD at_ 0 - 1), .int 0, .int width, .int (-1), .bl true, .non, .str "0", v2]) nl
    have d3 := d2.same t3
    refine ⟨_, rfl, hd, ce, 9, rfl, by decide, by decide, d3.b, fun H3 kk s3 hk => ?_⟩
    obtain ⟨th, ev⟩ := at_lt (l := [V.int (L.getD at_ 0 + 1), .int (L.getD at_ 0 - 1), .int 0, .int width, .int (-1), .bl true, .non, .str "0", v2]) (i := kk) (by show kk < 9; omega)
    have hth : Kd H3 th := by
      have q : ∀ x ∈ [V.int (L.getD at_ 0 + 1), .int (L.getD at_ 0 - 1), .int 0, .int width, .int (-1), .bl true, .non, .str "0", v2], Kd H3 x := alc (.int _) (alc (.int _) (alc (.int _) (alc (.int _) (alc (.int _) (alc (.bl _) (alc .non (alc (.str _) (alc ((hv2.kd.up (kp t3)).up s3.kp) al0))))))))
      exact q th (List.mem_of_getElem? ev)
    refine ⟨l, _, (kk : Nat), th, rfl, rfl, SqL.of (s3.lst nl1 upd_same), atI_nat ev, ?_⟩
    have d4 := d3.trans s3
    have hl3 := d4.kp.tup hl
    have kL : ∀ {H' : Hp}, ∀ x ∈ L.map V.int, Kd H' x := fun {H'} x hx => by
      obtain ⟨i, _, rfl⟩ := List.mem_map.mp hx
      exact .int i
    have nw1 := cut_lo_not (n := (L.map V.int).length) (i := at_) (by omega)
    have nw2 := cut_hi_not (n := (L.map V.int).length) (i := at_) (hi := none) (by omega)
    have c1 := cutV_length (L.map V.int) none (some (at_ : Nat))
    have c2 := cutV_length (L.map V.int) (some ((at_ + 1 : Nat) : Int)) none
    have c3 : (cutV (L.map V.int) none (some (at_ : Nat))).length + 1 + (cutV (L.map V.int) (some ((at_ + 1 : Nat) : Int)) none).length ≤ sizeLine := by omega
    -- the first two
    refine ⟨_, rfl, _, rfl, _, rfl, la, _, rfl, SqT.of hl3, nw1, fun p1 n1 => ?_⟩
    have u1 := sn (o := .tup (cutV (L.map V.int) none (some (at_ : Nat)))) n1
    refine ⟨_, rfl, by show 1 ≤ sizeLine; decide, fun p2 n2 => ?_⟩
    have u2 := sn (o := .tup [th]) n2
    refine catA_one (u2 _ _ upd_same) upd_same (by omega) fun H5 p3 u3 h3 => ?_
    refine ⟨_, rfl, _, rfl, _, _, rfl, rfl, _, rfl, la, _, rfl, SqT.of (u3 _ _ (u2 _ _ (u1 _ _ hl3))), nw2, fun p4 n4 => ?_⟩
    have u4 := sn (o := .tup (cutV (L.map V.int) (some ((at_ + 1 : Nat) : Int)) none)) n4
    refine catA_any (u4 _ _ h3) upd_same (by simp) (by rw [List.length_append]; exact c3) fun H6 p5 u5 h5 => ?_
    have u15 := ((u1.trans u2).trans u3).trans (u4.trans u5)
    refine ⟨_, rfl, _, rfl, _, rfl, la, _, rfl, SqT.of (u15 _ _ hl3), nw1, fun q1 m1 => ?_⟩
    have w1 := sn (o := .tup (cutV (L.map V.int) none (some (at_ : Nat)))) m1
    refine ⟨_, rfl, by show 1 ≤ sizeLine; decide, fun q2 m2 => ?_⟩
    have w2 := sn (o := .tup [th]) m2
    refine catA_one (w2 _ _ upd_same) upd_same (by omega) fun H7 q3 w3 g3 => ?_
    refine ⟨_, rfl, _, rfl, _, _, rfl, rfl, _, rfl, la, _, rfl, SqT.of (w3 _ _ (w2 _ _ (w1 _ _ (u15 _ _ hl3)))), nw2, fun q4 m4 => ?_⟩
    have w4 := sn (o := .tup (cutV (L.map V.int) (some ((at_ + 1 : Nat) : Int)) none)) m4
    refine catA_any (w4 _ _ g3) upd_same (by simp) (by rw [List.length_append]; exact c3) fun H8 q5 w5 g5 => ?_
    have w15 := ((w1.trans w2).trans w3).trans (w4.trans w5)
    have x8 := u15.trans w15
    have hl8 := x8 _ _ hl3
    -- list(edges), edges[1:], edges[::-1]
    refine ⟨_, rfl, la, _, rfl, .inr (SqT.of hl8), fun r1 o1 => ?_⟩
    have y1 := sn (o := .lst (L.map V.int)) o1
    refine ⟨_, rfl, _, rfl, la, _, rfl, SqT.of (y1 _ _ hl8), cut_hi_not (i := 0) (hi := none) (by omega), fun r2 o2 => ?_⟩
    have y2 := sn (o := .tup (cutV (L.map V.int) (some 1) none)) o2
    refine ⟨_, rfl, la, _, rfl, SqT.of (y2 _ _ (y1 _ _ hl8)), fun r3 o3 => ?_⟩
    have y3 := sn (o := .tup (L.map V.int).reverse) o3
    refine ⟨by show 5 ≤ sizeLine; decide, fun od nod => ?_⟩
    have y4 := sn (o := .lst [.ref p5, .ref q5, .ref r1, .ref r2, .ref r3]) nod
    have y14 := ((y1.trans y2).trans y3).trans y4
    have z1 := x8.trans y14
    have d9 := d4.same z1
    have hth2 : ∀ {H' : Hp}, Kp H3 H' → Kd H' th := fun {H'} kq => hth.up kq
    -- the second list
    refine ⟨_, rfl, _, rfl, by show 1 ≤ sizeLine; decide, fun e1 f1 => ?_⟩
    have a1 := sn (o := .tup [.int 0]) f1
    refine catA_one (a1 _ _ (z1 _ _ hl3)) upd_same (by omega) fun H9 e2 a2 i2 => ?_
    refine fun e3 f3 => ?_
    have a3 := sn (o := .dK []) f3
    have a13 := (a1.trans a2).trans a3
    have d10 := d9.same a13
    refine ⟨_, rfl, hd, ce, rfl, d10.b, fun H10 v10 s10 hv10 => ⟨by show 6 ≤ sizeLine; decide, fun e4 f4 => ?_⟩⟩
    have a4 := sn (o := .lst [.ref e2, .non, .ref e3, .int 0, .str "stand", v10]) f4
    have d11 := d10.trans s10
    have nod1 := (hH.ne ((d4.same (x8.trans ((y1.trans y2).trans y3))).nof nod)).1
    have hod : (upd H10 e4 (.lst [.ref e2, .non, .ref e3, .int 0, .str "stand", v10])) od = some (.lst [.ref p5, .ref q5, .ref r1, .ref r2, .ref r3]) := a4 _ _ (s10.lst nod1 (a13 _ _ upd_same))
    refine ⟨od, e4, _, _, rfl, rfl, hod, upd_same, by show 5 + 6 ≤ sizeLine; decide, fun e5 f5 => ?_⟩
    have a5 := sn (o := .lst ([.ref p5, .ref q5, .ref r1, .ref r2, .ref r3] ++ [.ref e2, .non, .ref e3, .int 0, .str "stand", v10])) f5
    have d12 := (d11.same a4).same a5
    have nf5 := (hH.ne ((d11.same a4).nof f5)).1
    refine ⟨_, rfl, hd, ce, 11, rfl, by decide, by decide, d12.b, fun H11 jj s11 hj => ?_⟩
    obtain ⟨z, ez⟩ := at_lt (l := [V.ref p5, .ref q5, .ref r1, .ref r2, .ref r3] ++ [.ref e2, .non, .ref e3, .int 0, .str "stand", v10]) (i := jj) (by show jj < 11; omega)
    refine ⟨e5, _, (jj : Nat), z, rfl, rfl, SqL.of (s11.lst nf5 upd_same), atI_nat ez, k _ z (d12.trans s11) ?_⟩
    have kE : Kp H10 H11 := (kp (a4.trans a5)).trans s11.kp
    have kD : Kp _ H11 := s10.kp.trans kE
    have kC : Kp _ H11 := (kp a13).trans kD
    have kB : Kp H8 H11 := (kp y14).trans kC
    have k3 : Kp H3 H11 := (kp x8).trans kB
    have bend : ∀ x ∈ cutV (L.map V.int) none (some (at_ : Nat)) ++ [th] ++ cutV (L.map V.int) (some ((at_ + 1 : Nat) : Int)) none, Kd H11 x := ala (ala (fun x hx => kL x (cut_mem hx)) (alc (hth.up k3) al0)) (fun x hx => kL x (cut_mem hx))
    have q : ∀ x ∈ [V.ref p5, .ref q5, .ref r1, .ref r2, .ref r3] ++ [.ref e2, .non, .ref e3, .int 0, .str "stand", v10], Th H11 x := by
      refine ala (alc ?_ (alc ?_ (alc ?_ (alc ?_ (alc ?_ al0))))) (alc ?_ (alc ?_ (alc ?_ (alc ?_ (alc ?_ (alc ?_ al0))))))
      · exact th_tup (kB.tup (w15 _ _ h5)) bend
      · exact th_tup (kB.tup g5) bend
      · exact (th_lst upd_same).up ((kp ((y2.trans y3).trans y4)).trans kC)
      · exact th_tup (kC.tup (y4 _ _ (y3 _ _ upd_same))) (fun x hx => kL x (cut_mem hx))
      · exact th_tup (kC.tup (y4 _ _ upd_same)) (fun x hx => kL x (List.mem_reverse.mp hx))
      · exact th_tup (kD.tup (a3 _ _ i2)) (ala kL (alc (.int 0) al0))
      · exact th_nr .non (not_nr True.intro)
      · exact (th_dK upd_same).up kD
      · exact th_nr (.int _) (not_nr True.intro)
      · exact th_nr (.str _) (not_nr True.intro)
      · exact hv10.up kE
    exact q z (List.mem_of_getElem? ez)
end K20

namespace K20
open PySem PySem.Spec PyProof.Rows L2
/-! ### stacks and strokes, plain -/
theorem psum_mono {f : Nat → Int} {l : List Nat} (h : ∀ x ∈ l, 0 ≤ f x) {k : Nat} : ∀ {k' : Nat}, k ≤ k' → psum f l k ≤ psum f l k'
  | 0, hk => by
    have : k = 0 := by omega
    rw [this]
    exact Int.le_refl _
  | k' + 1, hk => by
    by_cases e : k = k' + 1
    · rw [e]
      exact Int.le_refl _
    · have ih := psum_mono h (k := k) (k' := k') (by omega)
      by_cases hl : k' < l.length
      · obtain ⟨x, hx⟩ := at_lt (l := l) (i := k') hl
        rw [psum_snoc hx]
        have := h x (List.mem_of_getElem? hx)
        omega
      · unfold psum at ih ⊢
        rw [List.take_of_length_le (show l.length ≤ k' + 1 by omega)]
        rw [List.take_of_length_le (show l.length ≤ k' by omega)] at ih
        exact ih
theorem top_lt {ss : List (Int × Int)} {l : List Nat} (wf : Wf ss) (ho : Ord ss.length l) {i j : Nat} (hi : i < ss.length) (h : pos l i < pos l j) : topO ss l i + ht ss i ≤ topO ss l j := by
  have e := psum_snoc (f := ht ss) (at_pos (ho.mem hi))
  have m := psum_mono (f := ht ss) (l := l) (fun x hx => by have := (wf.h1 x (ho.lt hx)).1; omega) (show pos l i + 1 ≤ pos l j by omega)
  unfold topO
  omega
theorem top_pos {ss : List (Int × Int)} {l : List Nat} (wf : Wf ss) (ho : Ord ss.length l) {i j : Nat} (hi : i < ss.length) (hj : j < ss.length) (h : topO ss l i < topO ss l j) : pos l i < pos l j := by
  by_cases c : pos l i < pos l j
  · exact c
  · by_cases e : pos l j < pos l i
    · have := top_lt wf ho hj e
      have := (wf.h1 j hj).1
      omega
    · have e2 := pos_inj (ho.mem hi) (ho.mem hj) (by omega)
      rw [e2] at h
      exact absurd h (Int.lt_irrefl _)
theorem stack {ss : List (Int × Int)} {l : List Nat} (wf : Wf ss) (ho : Ord ss.length l) {i j : Nat} (hi : i < ss.length) (hj : j < ss.length) (hne : i ≠ j) : topO ss l i + ht ss i ≤ topO ss l j ∨ topO ss l j + ht ss j ≤ topO ss l i := by
  by_cases c : pos l i < pos l j
  · exact .inl (top_lt wf ho hi c)
  · by_cases e : pos l j < pos l i
    · exact .inr (top_lt wf ho hj e)
    · exact absurd (pos_inj (ho.mem hi) (ho.mem hj) (by omega)) hne
theorem meetB_iff {b l c m : Int} : meetB b l c m = true ↔ b < c + m ∧ c < b + l := by
  unfold meetB
  rw [Bool.and_eq_true, decide_eq_true_iff, decide_eq_true_iff]
def pic (n : Nat) (f g : Nat → Int) : List (Int × Int) := (List.range n).map fun x => (f x, g x)
def lis (n : Nat) (f : Nat → Int) : List Int := (List.range n).map f
theorem pic_at {n : Nat} {f g : Nat → Int} {x : Nat} {p : Int × Int} (h : (pic n f g)[x]? = some p) : x < n ∧ p = (f x, g x) := by
  have hl := lt_at h
  unfold pic at h hl
  rw [List.length_map, List.length_range] at hl
  rw [List.getElem?_map, List.getElem?_range hl] at h
  exact ⟨hl, (Option.some.inj h).symm⟩
theorem pic_len {n : Nat} {f g : Nat → Int} : (pic n f g).length = n := by
  unfold pic
  rw [List.length_map, List.length_range]
theorem lis_len {n : Nat} {f : Nat → Int} : (lis n f).length = n := by
  unfold lis
  rw [List.length_map, List.length_range]
theorem bhd_lis {lv : Bool} {n : Nat} {e f g : Nat → Int} : bhd (lv, lis n e) (pic n f g) = pic n (if lv = true then e else f) (if lv = true then g else e) := by
  unfold bhd lis pic
  refine List.ext_getElem? fun i => ?_
  rw [List.getElem?_zipWith, List.getElem?_map, List.getElem?_map, List.getElem?_map]
  by_cases h : i < n
  · rw [List.getElem?_range h]
    cases lv <;> rfl
  · rw [List.getElem?_eq_none (by rw [List.length_range]; omega)]
    rfl
theorem psL_pic {ss : List (Int × Int)} {l : List Nat} : psL ss l = pic ss.length (fun _ => 0) (topO ss l) := rfl
theorem ss_get {ss : List (Int × Int)} {x : Nat} {s : Int × Int} (h : ss[x]? = some s) : s = (wd ss x, ht ss x) := (Option.some.inj ((ss_at (lt_at h)).symm.trans h)).symm
theorem clear_psL {ss : List (Int × Int)} {l : List Nat} (wf : Wf ss) (ho : Ord ss.length l) : Clear ss (psL ss l) := by
  refine ⟨psL_len ss l, fun i j p q s r hij hp hq hs hr => ?_⟩
  rw [psL_pic] at hp hq
  obtain ⟨hi, rfl⟩ := pic_at hp
  obtain ⟨hj, rfl⟩ := pic_at hq
  cases ss_get hs
  cases ss_get hr
  have st := stack wf ho hi hj (by omega)
  refine Bool.and_eq_false_iff.mpr (.inl ?_)
  cases e : meetB (topO ss l i) (ht ss i) (topO ss l j) (ht ss j) with
  | false => rfl
  | true =>
    have := meetB_iff.mp e
    omega
/-- the three strokes -/
def three (ss : List (Int × Int)) (other : List Nat) (E : Nat → Int) : List (Bool × List Int) := [(true, lis ss.length E), (false, lis ss.length (topO ss other)), (true, lis ss.length fun _ => 0)]
theorem three_end {ss : List (Int × Int)} {one other : List Nat} {E : Nat → Int} : runEnd (psL ss one) (three ss other E) = psL ss other := by
  show bhd (true, lis ss.length fun _ => 0) (bhd (false, lis ss.length (topO ss other)) (bhd (true, lis ss.length E) (psL ss one))) = psL ss other
  rw [psL_pic, bhd_lis, bhd_lis, bhd_lis]
  rfl
theorem three_free {ss : List (Int × Int)} {one other : List Nat} {width : Int} {E : Nat → Int} (wf : Wf ss) (ho : Ord ss.length one) (ho2 : Ord ss.length other) (hs : Stand ss.length one other (wd ss) width E) : FreeRun ss (psL ss one) (three ss other E) := by
  refine ⟨?_, ?_, ?_, True.intro⟩
  · intro i j p q s hb _ _ _
    obtain ⟨p1, q1, s1, r1, h1, h2, h3, h4, h5⟩ := hb
    rw [psL_pic] at h1 h2
    obtain ⟨_, rfl⟩ := pic_at h1
    obtain ⟨_, rfl⟩ := pic_at h2
    have h6 : (0 : Int) < 0 := h5.2
    exact absurd h6 (Int.lt_irrefl _)
  · rw [psL_pic, bhd_lis]
    intro i j p q s hb hp hq hs2
    obtain ⟨p1, q1, s1, r1, h1, h2, h3, h4, h5⟩ := hb
    obtain ⟨hi, rfl⟩ := pic_at h1
    obtain ⟨hj, rfl⟩ := pic_at h2
    cases ss_get h3
    cases ss_get h4
    cases ss_get hs2
    rw [bhd_lis] at hp hq
    obtain ⟨_, rfl⟩ := pic_at hp
    obtain ⟨_, rfl⟩ := pic_at hq
    have m : meetB (E i) (wd ss i) (E j) (wd ss j) = true := h5.1
    have t : topO ss one i < topO ss one j := h5.2
    have mm := meetB_iff.mp m
    have pl := top_pos wf ho hi hj t
    have ne : i ≠ j := fun e => by
      rw [e] at pl
      exact absurd pl (Nat.lt_irrefl _)
    have po : pos other i < pos other j := by
      by_cases c : pos other i < pos other j
      · exact c
      · have c2 : pos other i ≠ pos other j := fun e => ne (pos_inj (ho2.mem hi) (ho2.mem hj) e)
        rcases hs.2 i j hi hj ⟨pl, by omega⟩ with q | q <;> omega
    have r := top_lt wf ho2 hi po
    show 0 ≤ topO ss other j - topO ss other i - ht ss i
    omega
  · rw [psL_pic, bhd_lis, bhd_lis]
    intro i j p q s hb _ _ _
    obtain ⟨p1, q1, s1, r1, h1, h2, h3, h4, h5⟩ := hb
    obtain ⟨hi, rfl⟩ := pic_at h1
    obtain ⟨hj, rfl⟩ := pic_at h2
    cases ss_get h3
    cases ss_get h4
    have m : meetB (topO ss other i) (ht ss i) (topO ss other j) (ht ss j) = true := h5.1
    have t : E i < E j := h5.2
    have mm := meetB_iff.mp m
    have ne : i ≠ j := fun e => by
      rw [e] at t
      exact absurd t (Int.lt_irrefl _)
    have := stack wf ho2 hi hj ne
    omega
theorem lis_of {L : List Int} : L = lis L.length (fun x => L.getD x 0) := by
  unfold lis
  refine List.ext_getElem? fun i => ?_
  by_cases h : i < L.length
  · rw [List.getElem?_map, List.getElem?_range h, getD_at h]
    rfl
  · rw [List.getElem?_eq_none (by omega), List.getElem?_eq_none (by rw [List.length_map, List.length_range]; omega)]
/-! ### equal pictures -/
def encI (p : Int × Int) : PyData := .tuple [.int p.1, .int p.2]
theorem dp_I {K : PySem.W.Frag} {H : Hp} {v : V} {z : Int × Int} (h : TI H v [z.1, z.2]) : Dp K H v (encI z) := by
  obtain ⟨a, rfl, h⟩ := h
  exact .tup (SqT.of h) (.cons (.int _) (.cons (.int _) .nil))
theorem dp_Is {K : PySem.W.Frag} {H : Hp} : ∀ {vs : List V} {zs : List (Int × Int)}, Paired (fun v (z : Int × Int) => TI H v [z.1, z.2]) vs zs → DpAll K H vs (zs.map encI)
  | _, _, .nil => .nil
  | _, _, .cons h t => .cons (dp_I h) (dp_Is t)
theorem canLay_Is : ∀ zs : List (Int × Int), PyData.canLayAll0 (zs.map encI) = true
  | [] => by simp [PyData.canLayAll0]
  | z :: zs => by
    have := canLay_Is zs
    rw [List.map_cons]
    simp only [PyData.canLayAll0, encI, PyData.canLay0, this]
    rfl
theorem depth_Is : ∀ zs : List (Int × Int), PyData.depthAll (zs.map encI) ≤ 3
  | [] => by rw [List.map_nil]; simp [PyData.depthAll]
  | z :: zs => by
    have h1 := depth_Is zs
    rw [List.map_cons]
    simp only [PyData.depthAll, encI, PyData.depth]
    omega
theorem canLay_T (zs : List (Int × Int)) : PyData.canLay0 (.tuple (zs.map encI)) = true := by
  simp only [PyData.canLay0]
  exact canLay_Is zs
theorem shaped_Is (zs : List (Int × Int)) : SeqAt.shaped (.tuple (zs.map encI)) = true := by
  have h := depth_Is zs
  refine dand (canLay_T zs) (decide_eq_true ?_)
  simp only [PyData.depth]
  omega
theorem tp_dp {K : PySem.W.Frag} {H : Hp} {v : V} {ps : List (Int × Int)} (h : TP H v ps) : Dp K H v (.tuple (ps.map encI)) := by
  obtain ⟨a, vs, rfl, h, q⟩ := h
  exact .tup (SqT.of h) (dp_Is q)
theorem flat_rep {n : Nat} : (List.replicate n [V.int 0]).flatten = (lis n fun _ => 0).map V.int := by
  unfold lis
  rw [List.map_map]
  induction n with
  | zero => rfl
  | succ n ih =>
    rw [List.range_succ, List.map_append, ← ih, List.replicate_succ', List.flatten_append]
    rfl
theorem rep_zero {K : PySem.W.Frag} {H : Hp} {t : Addr} {n : Nat} {Q : VK} (h : H t = some (.tup [.int 0])) (h1 : 1 ≤ n) (h2 : n ≤ 40) (q : ∀ H' c, Same H H' → H' c = some (.tup ((lis n fun _ => 0).map V.int)) → Q (.ref c) H') : rRepT K (.ref t) (.int (n : Nat)) H Q ∨ rRep1 K (.ref t) (.int (n : Nat)) H Q := by
  by_cases c : n = 1
  · subst c
    exact .inr ⟨t, _, rfl, rfl, SqT.of h, q H t (Same.refl _) h⟩
  · refine .inl ⟨t, (n : Nat), _, rfl, rfl, SqT.of h, by simp, by omega, by omega, by show 1 ≤ 1000; decide, fun p np => q _ p (sn np) ?_⟩
    rw [upd_same, Int.toNat_natCast, flat_rep]
/-! _law_strokes_right: slots 0=_law_boxes 1=_law_sizes_here 2=_law_one 3=_law_other 4=_law_edges 5=_law_tops 6=_law_steps 7=_law_place -/
def sp_law_strokes_right (K : PySem.W.Frag) : Sp := fun vs H Q _ => ∃ (v u u1 u2 e : V) (ss : List (Int × Int)) (width : Int) (one other : List Nat) (L : List Int), vs = [v, u, u1, u2, e] ∧ BX K H v ss ∧ TP H u ss ∧ Wf ss ∧ TN H u1 one ∧ TN H u2 other ∧ Ord ss.length one ∧ Ord ss.length other ∧ TI H e L ∧ L.length = ss.length ∧ Stand ss.length one other (wd ss) width (fun x => L.getD x 0) ∧ ∀ H', Same H H' → Q (.bl true) H'
theorem sc_law_strokes_right : FnScope ["_law_boxes", "_law_sizes_here", "_law_one", "_law_other", "_law_edges", "_law_tops", "_law_steps", "_law_place"] ["_law_boxes", "_law_sizes_here", "_law_one", "_law_other", "_law_edges"] (defScope (top 80)) := ⟨rfl, rfl, rfl, by decide +kernel, rfl, by decide +kernel, by decide +kernel⟩
theorem ok_law_strokes_right {P : Program} {w : World} {K : PySem.W.Frag} {mg : Str → Option Value} {base : Heap} (T : Tx K mg) : Fn P w K mg base "_law_strokes_right" 9 ["_law_boxes", "_law_sizes_here", "_law_one", "_law_other", "_law_edges"] (sp_law_strokes_right K) := by
  refine mkFn (k := 8) T.t__law_strokes_right sc_law_strokes_right (fun vs H Q E h => ?_) (fun _ _ _ _ _ _ us hl => match us, hl with | [_, _, _, _, _], _ => rfl) (fun f cdv A outer s H vs Q E hr h => ?_)
  · obtain ⟨v, u, u1, u2, e, ss, width, one, other, L, rfl, hB, hU, wf, hu1, hu2, ho, ho2, ⟨ea, rfl, he⟩, hL, hst, k⟩ := h <;> rfl
  · refine ⟨_, (pss_cons (ps_set (i := 5) sc_law_strokes_right.nd rfl (by first | exact Or.inl rfl | exact Or.inr rfl) (pe_callTy (k_tuple (K := K) rfl) rfl T.f_tuple b_tuple (pa_cons (pe_lc (own := [("_law_place", 7)]) (g := (gName 7)) (tt := tYes) rfl sc_law_strokes_right.nd (k_pt (K := K) rfl (cl (ok_listed T) (hr.mono (by decide)) rfl (pa_cons (pv 0) (pa_cons (pv 3) pa_nil)))) (blkOk_by (N := ["_law_boxes", "_law_sizes_here", "_law_one", "_law_other", "_law_edges", "_law_tops", "_law_steps", "_law_place"]) (sc := defScope (top 80)) (by decide +kernel)) (fun _ _ _ _ _ => (pg_name (i := 7) sc_law_strokes_right.nd rfl (by first | exact Or.inl rfl | exact Or.inr rfl))) (fun _ _ _ _ _ => pts_nil) (fun _ _ _ _ _ => (pe_ix (k_ixT (K := K) rfl) (pv 7) pe_int (fun _ _ => rfl)))) pa_nil)))
        (pss_cons (ps_set (i := 6) sc_law_strokes_right.nd rfl (by first | exact Or.inl rfl | exact Or.inr rfl) (pe_tup (pa_cons (pe_tup (pa_cons pe_str (pa_cons (pe_callTy (k_tuple (K := K) rfl) rfl T.f_tuple b_tuple (pa_cons (pe_callTy (k_list (K := K) rfl) rfl T.f_list b_list (pa_cons (pv 4) pa_nil)) pa_nil)) pa_nil))) (pa_cons (pe_tup (pa_cons pe_str (pa_cons (pv 5) pa_nil))) (pa_cons (pe_tup (pa_cons pe_str (pa_cons (pe_op (k_rep (K := K) rfl) (pe_tup (pa_cons pe_int pa_nil)) (pe_callB (k_len (K := K) rfl) rfl T.f_len b_len (pa_cons (pv 1) pa_nil))) pa_nil))) pa_nil)))))
        (pss_cons (ps_if (pt_cmpR op_notBl (cl (ok_is_script T) (hr.mono (by decide)) rfl (pa_cons (pv 0) (pa_cons (cl (ok_listed T) (hr.mono (by decide)) rfl (pa_cons (pv 0) (pa_cons (pv 2) pa_nil))) (pa_cons (pv 6) pa_nil)))) pe_bl (nomark _)) (pss_one (ps_ret pe_bl)) pss_nil)
        (pss_one (ps_ret (pe_cmpR (k_eqD (K := K) rfl hr.units) (cl (ok_led T) (hr.mono (by decide)) rfl (pa_cons (pv 0) (pa_cons (cl (ok_listed T) (hr.mono (by decide)) rfl (pa_cons (pv 0) (pa_cons (pv 2) pa_nil))) (pa_cons (pv 6) pa_nil)))) (cl (ok_listed T) (hr.mono (by decide)) rfl (pa_cons (pv 0) (pa_cons (pv 3) pa_nil))) (nomark _))))))), ?_⟩
    obtain ⟨v, u, u1, u2, e, ss, width, one, other, L, rfl, hB, hU, wf, hu1, hu2, ho, ho2, ⟨ea, rfl, he⟩, hL, hst, k⟩ := h
    have h40 := wf.le
    have h1 := wf.pos
    obtain ⟨ta, tv, rfl, ht, hP⟩ := id hU
    have lw := Paired.length hP
    refine ⟨_, rfl, _, rfl, v, u2, ss, other, rfl, hB, h40, hu2, ho2, fun H1 z s1 hz => ?_⟩
    obtain ⟨za, zv, rfl, hza, hzP⟩ := hz
    have lz := Paired.length hzP
    rw [psL_len] at lz
    refine ⟨za, rfl, ⟨_, SqT.of hza⟩, lc_map (psL ss other) (fun p => .int p.2) (walk_tupn (by rw [psL_len]; exact lz)) (by rw [psL_len]; omega) (fun H' s => SqT.of (s _ _ hza)) (fun i p x H2 H3 hp s2 y Qt kk => ?_) (fun D H2 nD s2 hD => ?_)⟩
    · obtain ⟨rfl, hx⟩ := y
      obtain ⟨x', g1, c, rfl, hc⟩ := prd_get hzP hp
      cases Option.some.inj (g1.symm.trans hx)
      exact ⟨rfl, _, rfl, c, _, 1, _, rfl, rfl, SqT.of (s2 _ _ hc), atI_nat (j := 1) rfl, kk _ (Same.refl _)⟩
    have eD : (psL ss other).map (fun p => V.int p.2) = (lis ss.length (topO ss other)).map V.int := by
      unfold psL lis
      rw [List.map_map, List.map_map]
      rfl
    rw [eD] at hD
    refine ⟨D, _, rfl, .inl ⟨SqL.of hD, fun t1 n1 => ?_⟩⟩
    have q1 := sn (o := .tup ((lis ss.length (topO ss other)).map V.int)) n1
    have s12 := (s1.trans s2).trans q1
    refine ⟨_, rfl, ea, _, rfl, .inr (SqT.of (s12 _ _ he)), fun l1 m1 => ?_⟩
    have q2 := sn (o := .lst (L.map V.int)) m1
    refine ⟨l1, _, rfl, .inl ⟨SqL.of upd_same, fun t2 n2 => ?_⟩⟩
    have q3 := sn (o := .tup (L.map V.int)) n2
    refine ⟨by show 2 ≤ sizeLine; decide, fun t3 n3 => ?_⟩
    have q4 := sn (o := .tup [.str "level", .ref t2]) n3
    refine ⟨_, rfl, by show 2 ≤ sizeLine; decide, fun t4 n4 => ?_⟩
    have q5 := sn (o := .tup [.str "upright", .ref t1]) n4
    refine ⟨by show 1 ≤ sizeLine; decide, fun t5 n5 => ?_⟩
    have q6 := sn (o := .tup [.int 0]) n5
    have s16 := s12.trans ((q2.trans q3).trans ((q4.trans q5).trans q6))
    refine ⟨_, rfl, ta, tv, rfl, .inr (SqT.of (s16 _ _ ht)), ?_⟩
    rw [lw]
    refine rep_zero upd_same h1 h40 fun H7 t6 s7 h6 => ⟨by show 2 ≤ sizeLine; decide, fun t7 n7 => ⟨by show 3 ≤ sizeLine; decide, fun t8 n8 => ?_⟩⟩
    have q7 := sn (o := .tup [.str "level", .ref t6]) n7
    have q8 := sn (o := .tup [.ref t3, .ref t4, .ref t7]) n8
    have s78 := s7.trans (q7.trans q8)
    have s18 := s16.trans s78
    have x3 := s78 _ _ (q6 _ _ (q5 _ _ upd_same))
    have x4 := s78 _ _ (q6 _ _ upd_same)
    have x7 := q8 _ _ upd_same
    have y2 := s78 _ _ (q6 _ _ (q5 _ _ (q4 _ _ upd_same)))
    have y1 := s78 _ _ (q6 _ _ (q5 _ _ (q4 _ _ (q3 _ _ (q2 _ _ upd_same)))))
    have y6 := q8 _ _ (q7 _ _ h6)
    have eL : L = lis ss.length (fun x => L.getD x 0) := by
      have q := lis_of (L := L)
      rw [hL] at q
      exact q
    have hS : SC (upd (upd H7 t7 (.tup [.str "level", .ref t6])) t8 (.tup [.ref t3, .ref t4, .ref t7])) (.ref t8) (three ss other fun x => L.getD x 0) :=
      ⟨t8, _, rfl, upd_same, .cons ⟨t3, .ref t2, rfl, x3, t2, rfl, by rw [y2]; show _ = some (HO.tup ((lis ss.length fun x => L.getD x 0).map V.int)); rw [← eL]⟩ (.cons ⟨t4, .ref t1, rfl, x4, t1, rfl, y1⟩ (.cons ⟨t7, .ref t6, rfl, x7, t6, rfl, y6⟩ .nil))⟩
    have hsts : ∀ st ∈ three ss other fun x => L.getD x 0, st.2.length = ss.length := fun st hm => by
      unfold three at hm
      rcases List.mem_cons.mp hm with e | hm
      · rw [e]
        exact lis_len
      · rcases List.mem_cons.mp hm with e | hm
        · rw [e]
          exact lis_len
        · rw [List.mem_singleton.mp hm]
          exact lis_len
    have hfr := three_free wf ho ho2 hst
    have hcl := clear_psL wf ho
    refine ⟨_, rfl, _, rfl, _, rfl, v, u1, ss, one, rfl, hB.up (kp s18), h40, hu1.up (kp s18), ho, fun H9 z9 s9 hz9 => ?_⟩
    refine ⟨_, rfl, v, z9, .ref t8, ss, psL ss one, three ss other fun x => L.getD x 0, rfl, hB.up (kp (s18.trans s9)), hz9, hS.up (kp s9), hcl, by show 3 ≤ 200; decide, hsts, h40, hfr, fun H10 s10 => ?_⟩
    have s110 := (s18.trans s9).trans s10
    refine ⟨_, _, rfl, rfl, _, rfl, if0 (by decide) ?_⟩
    refine ⟨_, rfl, _, rfl, _, rfl, v, u1, ss, one, rfl, hB.up (kp s110), h40, hu1.up (kp s110), ho, fun H11 z11 s11 hz11 => ?_⟩
    refine ⟨_, rfl, v, z11, .ref t8, ss, psL ss one, three ss other fun x => L.getD x 0, rfl, hB.up (kp (s110.trans s11)), hz11, hS.up (kp ((s9.trans s10).trans s11)), hcl, by show 3 ≤ 200; decide, hsts, h40, hfr, fun H12 z12 s12' hz12 => ?_⟩
    have s112 := (s110.trans s11).trans s12'
    refine ⟨_, rfl, _, rfl, v, u2, ss, other, rfl, hB.up (kp s112), h40, hu2.up (kp s112), ho2, fun H13 z13 s13 hz13 => ?_⟩
    rw [three_end] at hz12
    refine ⟨.tuple ((psL ss other).map encI), .tuple ((psL ss other).map encI), tp_dp (hz12.up (kp s13)), tp_dp hz13, shaped_Is _, shaped_Is _, qb ?_ (k H13 (s112.trans s13))⟩
    exact SeqAt.eqv_refl _ (canLay_T _)
end K20

namespace K20
open PySem PySem.Spec PyProof.Rows L2
theorem putF_sizes (v : V) : putF ("sizes" : Str) v [] = [(("sizes" : Str), v)] := rfl
theorem putF_many (v : V) (n : Nat) : putF ("many" : Str) (.int (n : Nat)) [(("sizes" : Str), v)] = bF v n := by
  have e : ¬ (("sizes" : Str) = ("many" : Str)) := by decide +kernel
  show (if ("sizes" : Str) = "many" then _ else _) = _
  rw [if_neg e]
  rfl
/-! Boxes.__init__: slots 0=self 1=sizes 2=number 3=size -/
def sp_init (K : PySem.W.Frag) : Sp := fun vs H Q _ => ∃ (x dx : Addr) (v : V) (ss : List (Int × Int)), vs = [.ref x, v] ∧ H x = some (.ins (cB K) dx []) ∧ TP H v ss ∧ Wf ss ∧ ∀ H', Keep x H H' → H' x = some (.ins (cB K) dx (bF v ss.length)) → Q .non H'
theorem sc_init : FnScope ["self", "sizes", "number", "size"] ["self", "sizes"] (defScope sInit) := ⟨rfl, rfl, rfl, by decide +kernel, rfl, by decide +kernel, by decide +kernel⟩
theorem ok_init {P : Program} {w : World} {K : PySem.W.Frag} {mg : Str → Option Value} {base : Heap} (T : Tx K mg) : ∃ fd, Binds K fd ["self", "sizes"] [] ∧ FnOk P w K mg base CX0 4 (He.ma K (cB K) "__init__") fd ["self", "sizes"] (sp_init K) := by
  obtain ⟨fd, F⟩ := T.init
  refine ⟨fd, F.bindsN (fun _ _ _ _ _ _ us hl => match us, hl with | [_, _], _ => rfl), F.ok (k := 3) sc_init (fun vs H Q E h => ?_) fun cdv A outer s H vs Q E hr h => ?_⟩
  · obtain ⟨x, dx, v, ss, rfl, hx, ⟨ta, tv, rfl, ht, hP⟩, wf, k⟩ := h <;> rfl
  · suffices hh : ∃ t, PSs (cxOf CX0 P w K mg base ["self", "sizes", "number", "size"] "Boxes.__init__" (defScope sInit) (He.ma K (cB K) "__init__") cdv A outer s H E).nox (defBody sInit) t ∧ t { nx := fun _ H' => Q .non H', rt := Q } (start ["self", "sizes", "number", "size"] vs) H by
      obtain ⟨t, h1, h2⟩ := hh
      exact ⟨t, PSs.nox h1, h2⟩
    refine ⟨_, (pss_cons (ps_if (pt_not (pt_val (cl (ok_is_sized T) (hr.mono (by decide)) rfl (pa_cons (pv 1) (pa_cons pe_int (pa_cons (pe_gi rfl T.c_MOST_BOXES) pa_nil)))))) pss_never pss_nil)
        (pss_cons (ps_for PassesOwn.never rfl (k_enum (K := K) rfl rfl T.f_enumerate (pa_cons (pv 1) pa_nil)) (pg_tup rfl (pgs_cons (pg_name (i := 2) sc_init.nd rfl (by first | exact Or.inl rfl | exact Or.inr rfl)) (pgs_cons (pg_name (i := 3) sc_init.nd rfl (by first | exact Or.inl rfl | exact Or.inr rfl)) pgs_nil))) (pss_one (ps_if (pt_not (pt_val (cl (ok_is_size T) (hr.mono (by decide)) rfl (pa_cons (pv 3) pa_nil)))) pss_never pss_nil)))
        (pss_cons (ps_fld (pv 0) (pv 1) rfl)
        (pss_one (ps_fld (pv 0) (pe_callB (k_len (K := K) rfl) rfl T.f_len b_len (pa_cons (pv 1) pa_nil)) rfl))))), ?_⟩
    obtain ⟨x, dx, v, ss, rfl, hx, ⟨ta, tv, rfl, ht, hP⟩, wf, k⟩ := h
    have lw := Paired.length hP
    have h1 := wf.pos
    have h40 := wf.le
    refine ⟨_, rfl, .inl ⟨ta, tv, _, _, rfl, ht, _, rfl, ifn0 (dand (dle (by omega)) (dle (by omega))) ?_⟩⟩
    refine ⟨_, rfl, ta, _, rfl, SqT.of ht, for_it (walk_enumT (xs := tv)) (fun i σ H' => ∃ v2 v3, σ = [some (.ref x), some (.ref ta), v2, v3] ∧ Same H H')
      ⟨none, none, rfl, Same.refl _⟩ (fun i σ H' _ p => ?_) (fun i y σ H1 H2 hi p yy => ?_) (fun σ H1 p => ?_)⟩
    · obtain ⟨_, _, _, s1⟩ := p
      exact SqT.of (s1 _ _ ht)
    · obtain ⟨v2, v3, rfl, s1⟩ := p
      obtain ⟨U, x1, x2, rfl, nU, rfl, y1, y2⟩ := yy
      have sU := sn (o := .tup [x1, x2]) nU
      obtain ⟨s, e1, hs⟩ := paired_at hP y2
      cases ss_get e1
      have w1 := wf.w1 i (lt_at e1)
      have w2 := wf.h1 i (lt_at e1)
      refine ⟨U, _, rfl, SqT.of upd_same, rfl, _, _, rfl, _, _, rfl, rfl, ?_⟩
      exact ⟨_, rfl, x2, wd ss i, K20.ht ss i, rfl, (hs.up (kp (s1.trans sU))), w1.1, w1.2, w2.1, w2.2, _, rfl, ifn0 rfl ⟨_, _, rfl, s1.trans sU⟩⟩
    · obtain ⟨v2, v3, rfl, s1⟩ := p
      have hx1 := s1 _ _ hx
      have ht1 := s1 _ _ ht
      have nta : ta ≠ x := fun e => by
        rw [e, hx1] at ht1
        cases ht1
      refine ⟨_, rfl, _, rfl, x, _, dx, [], rfl, hx1, T.clB, T.nS, by decide, ?_⟩
      refine ⟨_, rfl, ta, tv, rfl, .inr (SqT.of (by rw [upd_ne nta]; exact ht1)), _, rfl, x, _, dx, _, rfl, upd_same, T.clB, T.nM, by show 1 < 1000; decide, ?_⟩
      refine k _ (fun a u na h => ?_) ?_
      · rw [upd_ne na, upd_ne na]
        exact s1 _ _ h
      · rw [upd_same, putF_sizes, putF_many, lw]
end K20

namespace K20
open PySem PySem.Spec PyProof.Rows L2
/-- all that is not known to the object stands as it was -/
def Sz (H U : Hp) : Prop := ∀ a u, (∀ o w, u ≠ HO.frz o w) → H a = some u → U a = some u
theorem sz_of {H : Hp} {a1 a2 : Addr} {o1 o2 : Obj} {u1 u2 v1 v2 : HO} (h1 : H a1 = some (.frz o1 u1)) (h2 : H a2 = some (.frz o2 u2)) : Sz H (upd (upd H a1 v1) a2 v2) := fun a u n h => by
  have e1 : a ≠ a1 := fun e => by
    rw [e, h1] at h
    cases h
    exact n _ _ rfl
  have e2 : a ≠ a2 := fun e => by
    rw [e, h2] at h
    cases h
    exact n _ _ rfl
  rw [upd_ne e2, upd_ne e1]
  exact h
theorem TI.z {H U : Hp} {v : V} {l : List Int} (h : TI H v l) (s : Sz H U) : TI U v l := by
  obtain ⟨a, e, h⟩ := h
  exact ⟨a, e, s _ _ (fun _ _ z => by cases z) h⟩
theorem TP.z {H U : Hp} {v : V} {l : List (Int × Int)} (h : TP H v l) (s : Sz H U) : TP U v l := by
  obtain ⟨a, vs, e, h, q⟩ := h
  exact ⟨a, vs, e, s _ _ (fun _ _ z => by cases z) h, prd_imp q fun _ _ t => t.z s⟩
theorem BX.z {K : PySem.W.Frag} {H U : Hp} {v : V} {ss : List (Int × Int)} (h : BX K H v ss) (s : Sz H U) : BX K U v ss := by
  obtain ⟨b, dx, t, e, h, q⟩ := h
  exact ⟨b, dx, t, e, s _ _ (fun _ _ z => by cases z) h, q.z s⟩
theorem LP.z {H U : Hp} {D : Addr} {vs : List V} {zs : List (Nat × Nat)} (h : LP H D vs zs) (s : Sz H U) : LP U D vs zs := ⟨s _ _ (fun _ _ z => by cases z) h.1, prd_imp h.2 fun _ _ t => t.z s⟩
theorem LP.dr {H U : Hp} {D hd ce : Addr} {vs : List V} {zs : List (Nat × Nat)} (h : LP H D vs zs) (n : D ≠ hd) (s : Dr hd ce H U) : LP U D vs zs := ⟨s.lst n h.1, prd_imp h.2 fun _ _ t => t.up s.kp⟩
theorem Zt.dr {H U : Hp} {a hd ce : Addr} {xs : List V} (h : Zt H a xs) (s : Dr hd ce H U) : Zt U a xs := by
  obtain ⟨o, h, d⟩ := h
  refine ⟨o, s.k a _ (fun e => ?_) h, d⟩
  obtain ⟨cs, i, b, st, n, h0, _, _⟩ := s.a
  rw [e, h0] at h
  cases h
/-- what one turn has at hand -/
structure Bag (K : PySem.W.Frag) (hd ce : Addr) (H : Hp) (z bx a1 a2 : V) (D : Addr) (ws : List V) (ss : List (Int × Int)) (zs : List (Nat × Nat)) (one other : List Nat) : Prop where
  hH : Hd H hd ce
  hz : TP H z ss
  hB : BX K H bx ss
  h1 : TN H a1 one
  h2 : TN H a2 other
  hD : LP H D ws zs
  nD : D ≠ hd
theorem Bag.dr {K : PySem.W.Frag} {hd ce : Addr} {H U : Hp} {z bx a1 a2 : V} {D : Addr} {ws : List V} {ss : List (Int × Int)} {zs : List (Nat × Nat)} {one other : List Nat} (b : Bag K hd ce H z bx a1 a2 D ws ss zs one other) (s : Dr hd ce H U) : Bag K hd ce U z bx a1 a2 D ws ss zs one other :=
  ⟨s.b, b.hz.up s.kp, b.hB.up s.kp, b.h1.up s.kp, b.h2.up s.kp, b.hD.dr b.nD s, b.nD⟩
theorem Bag.sm {K : PySem.W.Frag} {hd ce : Addr} {H U : Hp} {z bx a1 a2 : V} {D : Addr} {ws : List V} {ss : List (Int × Int)} {zs : List (Nat × Nat)} {one other : List Nat} (b : Bag K hd ce H z bx a1 a2 D ws ss zs one other) (s : Same H U) : Bag K hd ce U z bx a1 a2 D ws ss zs one other := b.dr (.of b.hH s)
theorem Bag.put {K : PySem.W.Frag} {hd ce : Addr} {H : Hp} {z bx a1 a2 : V} {D so : Addr} {ws xs ys : List V} {ss : List (Int × Int)} {zs : List (Nat × Nat)} {one other : List Nat} (b : Bag K hd ce H z bx a1 a2 D ws ss zs one other) (h : H so = some (.lst xs)) (n : D ≠ so) (hh : Hd (upd H so (.lst ys)) hd ce) : Bag K hd ce (upd H so (.lst ys)) z bx a1 a2 D ws ss zs one other :=
  ⟨hh, b.hz.up (kpL h), b.hB.up (kpL h), b.h1.up (kpL h), b.h2.up (kpL h), ⟨by rw [upd_ne n]; exact b.hD.1, prd_imp b.hD.2 fun _ _ q => q.up (kpL h)⟩, b.nD⟩
theorem lw_wd {ss : List (Int × Int)} (h : Lw ss) {x : Nat} (hx : x < ss.length) : 1 ≤ wd ss x ∧ wd ss x ≤ 9 ∧ 1 ≤ ht ss x ∧ ht ss x ≤ 3 := h (wd ss x, ht ss x) (List.mem_of_getElem? (ss_at hx))
theorem lw_wf {ss : List (Int × Int)} (h : Lw ss) (h1 : 1 ≤ ss.length) (h40 : ss.length ≤ 40) : Wf ss :=
  ⟨h1, h40, fun x hx => by have := lw_wd h hx; omega, fun x hx => by have := lw_wd h hx; omega⟩
theorem fine_iff {ss : List (Int × Int)} {one other : List Nat} {width : Int} (wf : Wf ss) (ho : Ord ss.length one) (h0 : 0 ≤ width) {f : Bool} (hf : f = fine one other (wd ss) width) : f = true ↔ ∃ E, Stand ss.length one other (wd ss) width E := by
  rw [hf]
  constructor
  · intro h
    exact ⟨_, stand_of_fine ho h0 h⟩
  · rintro ⟨E, h⟩
    exact fine_of_stand ho (fun x hx => (wf.w1 x hx).1) h0 h
theorem pref_stand {ss : List (Int × Int)} {one other : List Nat} {width : Int} {zs : List (Nat × Nat)} (ho : Ord ss.length one) (ho2 : Ord ss.length other) (hz : ∀ z : Nat × Nat, z ∈ zs ↔ Trn ss.length one other z.1 z.2) : (∃ L, Pref (wd ss) width zs ss.length L) ↔ ∃ E, Stand ss.length one other (wd ss) width E := by
  constructor
  · rintro ⟨L, h1, h2, h3⟩
    exact ⟨fun x => L.getD x 0, (stand_pairs ho ho2 hz).mpr ⟨h2, fun z hzm => h3 z hzm ((hz z).mp hzm).2.1⟩⟩
  · rintro ⟨E, h⟩
    have q := (stand_pairs ho ho2 hz).mp h
    have e : ∀ x, x < ss.length → (lis ss.length E).getD x 0 = E x := fun x hx => getD_of (by
      unfold lis
      rw [List.getElem?_map, List.getElem?_range hx]
      rfl)
    refine ⟨lis ss.length E, lis_len, fun x hx => by rw [e x hx]; exact q.1 x hx, fun z hzm hz2 => ?_⟩
    have t := (hz z).mp hzm
    have r := q.2 z hzm
    unfold Apt at r ⊢
    show (lis ss.length E).getD z.1 0 + wd ss z.1 ≤ (lis ss.length E).getD z.2 0 ∨ (lis ss.length E).getD z.2 0 + wd ss z.2 ≤ (lis ss.length E).getD z.1 0
    rw [e z.1 (by have := t.1; have := t.2.1; omega), e z.2 t.2.1]
    exact r
theorem stand_lef {ss : List (Int × Int)} {one other : List Nat} {width : Int} (ho : Ord ss.length one) (h0 : 0 ≤ width) (hf : fine one other (wd ss) width = true) : Stand ss.length one other (wd ss) width (fun x => (lefL ss.length one other (wd ss)).getD x 0) := by
  have h := stand_of_fine ho h0 hf
  have e : ∀ x, x < ss.length → (lefL ss.length one other (wd ss)).getD x 0 = lef one other (wd ss) x := fun x hx => getD_of (lefL_at hx)
  refine ⟨fun x hx => by show 0 ≤ (lefL ss.length one other (wd ss)).getD x 0 ∧ (lefL ss.length one other (wd ss)).getD x 0 ≤ width - wd ss x; rw [e x hx]; exact h.1 x hx, fun a x ha hx t => ?_⟩
  show (lefL ss.length one other (wd ss)).getD a 0 + wd ss a ≤ (lefL ss.length one other (wd ss)).getD x 0 ∨ (lefL ss.length one other (wd ss)).getD x 0 + wd ss x ≤ (lefL ss.length one other (wd ss)).getD a 0
  rw [e a ha, e x hx]
  exact h.2 a x ha hx t
theorem kind8 {k : Nat} (h : (k : Int) < 2) : ∃ m : Int, [V.int 8, V.int 4][k]? = some (.int m) ∧ 1 ≤ m ∧ m ≤ 40 := by
  match k, h with
  | 0, _ => exact ⟨8, rfl, by decide, by decide⟩
  | 1, _ => exact ⟨4, rfl, by decide, by decide⟩
  | k + 2, h => exact absurd h (by omega)
theorem told_ne {told : V} {f : Bool} (h1 : f = true → ∃ a, told = .ref a) (h2 : f = false → told = .non) : decide (V.bl (decide (told = .non)) = V.bl f) = false := by
  cases f with
  | true =>
    obtain ⟨a, rfl⟩ := h1 rfl
    rfl
  | false =>
    rw [h2 rfl]
    rfl
theorem GS.same {H H' : Hp} {ss : List (Int × Int)} {width : Int} {one other : List Nat} {th : V} (h : Th H th) (s : Same H H') : GS H' ss width one other th ↔ GS H ss width one other th := by
  constructor
  · rintro ⟨a, L, rfl, q, r⟩
    refine ⟨a, L, rfl, ?_, r⟩
    cases h.kd with
    | lst e => rw [s _ _ e] at q; cases q
    | tup e => rw [s _ _ e] at q; rw [e]; exact q
    | dK e => rw [s _ _ e] at q; cases q
  · rintro ⟨a, L, rfl, q, r⟩
    exact ⟨a, L, rfl, s _ _ q, r⟩
/-- what stand has told -/
def TF (ss : List (Int × Int)) (one other : List Nat) (f : Bool) (H : Hp) (told : V) : Prop := (f = true → TI H told (lefL ss.length one other (wd ss))) ∧ (f = false → told = .non)
theorem TF.up {ss : List (Int × Int)} {one other : List Nat} {f : Bool} {H U : Hp} {told : V} (h : TF ss one other f H told) (k : Kp H U) : TF ss one other f U told := ⟨fun c => (h.1 c).up k, h.2⟩
theorem kd_ints {H : Hp} {L : List Int} : ∀ x ∈ L.map V.int, Kd H x := fun x hx => by
  obtain ⟨i, _, rfl⟩ := List.mem_map.mp hx
  exact .int i
/-! law: slots 0=_law_script 1=_law_hand_here 2=_law_turn 3=_law_sizes_here 4=_law_width_here 5=_law_boxes 6=_law_one 7=_law_other 8=_law_pairs 9=_law_fine 10=_law_told 11=_law_some 12=_law_thing 13=_law_wide 14=_law_high -/
def sp_law (K : PySem.W.Frag) : Sp := fun vs H Q _ => ∃ (a : Addr) (ns : List Int), vs = [.ref a] ∧ SqL K H a (ns.map V.int) ∧ ns.length ≤ 100000 ∧ ∀ H', Q (.bl true) H'
theorem sc_law : FnScope ["_law_script", "_law_hand_here", "_law_turn", "_law_sizes_here", "_law_width_here", "_law_boxes", "_law_one", "_law_other", "_law_pairs", "_law_fine", "_law_told", "_law_some", "_law_thing", "_law_wide", "_law_high"] ["_law_script"] (defScope (top 81)) := ⟨rfl, rfl, rfl, by decide +kernel, rfl, by decide +kernel, by decide +kernel⟩
theorem ok_law {P : Program} {w : World} {K : PySem.W.Frag} {mg : Str → Option Value} {base : Heap} (T : Tx K mg) {fdL : FuncData} (FL : FunD K "law" "law" (defArgs (top 81)) (defBody (top 81)) (defScope (top 81)) [] [] (He.ga K "law") fdL) : FnOk P w K mg base CX0 10 (He.ga K "law") fdL ["_law_script"] (sp_law K) := by
  refine mkFnX (k := 9) FL sc_law (fun vs H Q E h => ?_) (fun f cdv A outer s H vs Q E hr h => ?_)
  · obtain ⟨a, ns, rfl, ha, hl, k⟩ := h <;> rfl
  · obtain ⟨fdI, bI, FI⟩ := ok_init (P := P) (w := w) (base := base) T
    refine ⟨_, (pss_cons (ps_set (i := 1) sc_law.nd rfl (by first | exact Or.inl rfl | exact Or.inr rfl) (cl (ok_law_hand T) (hr.mono (by decide)) rfl (pa_cons (pv 0) pa_nil)))
        (pss_cons (ps_for PassesOwn.never rfl (pi_range1 rfl T.f_range (pa_cons pe_int pa_nil)) (pg_name (i := 2) sc_law.nd rfl (by first | exact Or.inl rfl | exact Or.inr rfl)) (pss_free fun N hN => (pss_cons (ps_set (i := 3) sc_law.nd rfl (by first | exact Or.inl rfl | exact Or.inr rfl) (cl (ok_law_sizes T) (hr.mono (by decide)) rfl (pa_cons (pv 1) (pa_cons (pe_ifExp (PW.pt (pw_and (pt_cmpR op_eq (pv 2) pe_int (nomark _)) (pw_and1 (pt_cmpR op_eq (cl (ok_law_draw T) (hr.mono (by decide)) rfl (pa_cons (pv 1) (pa_cons pe_int pa_nil))) pe_int (nomark _))))) pe_int (pe_ix (k_ixL (K := K) rfl) (pe_lst (pa_cons pe_int (pa_cons pe_int pa_nil))) (cl (ok_law_draw T) (hr.mono (by decide)) rfl (pa_cons (pv 1) (pa_cons pe_int pa_nil))) (fun _ _ => rfl))) pa_nil))))
        (pss_cons (ps_set (i := 4) sc_law.nd rfl (by first | exact Or.inl rfl | exact Or.inr rfl) (cl (ok_law_width T) (hr.mono (by decide)) rfl (pa_cons (pv 1) (pa_cons (pv 3) pa_nil))))
        (pss_cons (ps_set (i := 5) sc_law.nd rfl (by first | exact Or.inl rfl | exact Or.inr rfl) (pe_make T.mkB FI (hr.mono (by decide)) rfl T.gB bI .nil pass0 (pa_cons (pv 3) pa_nil)))
        (pss_cons (ps_par (i := 6) (j := 7) rfl sc_law.nd rfl rfl (by decide) rfl rfl (pa_cons (cl (ok_law_order T) (hr.mono (by decide)) rfl (pa_cons (pv 1) (pa_cons (pe_callB (k_len (K := K) rfl) rfl T.f_len b_len (pa_cons (pv 3) pa_nil)) pa_nil))) (pa_cons (cl (ok_law_order T) (hr.mono (by decide)) rfl (pa_cons (pv 1) (pa_cons (pe_callB (k_len (K := K) rfl) rfl T.f_len b_len (pa_cons (pv 3) pa_nil)) pa_nil))) pa_nil)) (by rfl))
        (pss_cons (ps_set (i := 8) sc_law.nd rfl (by first | exact Or.inl rfl | exact Or.inr rfl) (cl (ok_law_turned T) (hr.mono (by decide)) rfl (pa_cons (pv 6) (pa_cons (pv 7) pa_nil))))
        (pss_cons (ps_set (i := 9) sc_law.nd rfl (by first | exact Or.inl rfl | exact Or.inr rfl) (pe_cmpR op_le (cl (ok_law_weightiest T) (hr.mono (by decide)) rfl (pa_cons (pv 6) (pa_cons (pv 7) (pa_cons (pe_lc (own := [("_law_wide", 13), ("_law_high", 14)]) (g := (gTup K 2 (gCons (gName 13) (gCons (gName 14) gNil)))) (tt := tYes) rfl sc_law.nd (k_pt (K := K) rfl (pv 3)) (blkOk_by (N := ["_law_script", "_law_hand_here", "_law_turn", "_law_sizes_here", "_law_width_here", "_law_boxes", "_law_one", "_law_other", "_law_pairs", "_law_fine", "_law_told", "_law_some", "_law_thing", "_law_wide", "_law_high"]) (sc := defScope (top 81)) (by decide +kernel)) (fun _ _ _ _ _ => (pg_tup rfl (pgs_cons (pg_name (i := 13) sc_law.nd rfl (by first | exact Or.inl rfl | exact Or.inr rfl)) (pgs_cons (pg_name (i := 14) sc_law.nd rfl (by first | exact Or.inl rfl | exact Or.inr rfl)) pgs_nil)))) (fun _ _ _ _ _ => pts_nil) (fun _ _ _ _ _ => (pv 13))) pa_nil)))) (pv 4) (nomark _)))
        (pss_cons (ps_unl hN (ps_unl hN (ps_if (PW.pt (pw_and (pt_cmpR op_lt (pe_callB (k_len (K := K) rfl) rfl T.f_len b_len (pa_cons (pv 3) pa_nil)) pe_int (nomark _)) (pw_and (pt_cmpR op_lt (pv 4) pe_int (nomark _)) (pw_and1 (pt_cmpR op_ne (cl (ok_law_some_stand T) (hr.mono (by decide)) rfl (pa_cons (pv 3) (pa_cons (pv 4) (pa_cons (pv 8) pa_nil)))) (pv 9) (nomark _)))))) (pss_one (ps_ret pe_bl)) pss_nil)))
        (pss_cons (ps_set (i := 10) sc_law.nd rfl (by first | exact Or.inl rfl | exact Or.inr rfl) (cl (ok_stand T) (hr.mono (by decide)) rfl (pa_cons (pv 5) (pa_cons (pv 4) (pa_cons (pv 6) (pa_cons (pv 7) pa_nil))))))
        (pss_cons (ps_if (PW.pt (pw_or (pt_not (pt_val (cl (ok_law_flag T) (hr.mono (by decide)) rfl (pa_cons (cl (ok_can_pass T) (hr.mono (by decide)) rfl (pa_cons (pv 5) (pa_cons (pv 4) (pa_cons (pv 6) (pa_cons (pv 7) pa_nil))))) (pa_cons (pv 9) pa_nil))))) (pw_or1 (pt_cmpR op_eq (pe_cmpR op_isN (pv 10) pe_non (nomark _)) (pv 9) (nomark _))))) (pss_one (ps_ret pe_bl)) pss_nil)
        (pss_cons (ps_if (pt_val (pv 9)) (pss_one (ps_if (PW.pt (pw_or (pt_not (pt_val (cl (ok_law_is_stand T) (hr.mono (by decide)) rfl (pa_cons (pv 3) (pa_cons (pv 4) (pa_cons (pv 8) (pa_cons (pv 10) pa_nil))))))) (pw_or1 (pt_not (pt_val (cl (ok_law_strokes_right T) (hr.mono (by decide)) rfl (pa_cons (pv 5) (pa_cons (pv 3) (pa_cons (pv 6) (pa_cons (pv 7) (pa_cons (pv 10) pa_nil))))))))))) (pss_one (ps_ret pe_bl)) pss_nil)) pss_nil)
        (pss_cons (ps_set (i := 11) sc_law.nd rfl (by first | exact Or.inl rfl | exact Or.inr rfl) (pe_lst (pa_cons (pe_callTy (k_tuple (K := K) rfl) rfl T.f_tuple b_tuple (pa_cons (pe_lc (own := [("_law_wide", 13), ("_law_high", 14)]) (g := (gTup K 2 (gCons (gName 13) (gCons (gName 14) gNil)))) (tt := tYes) rfl sc_law.nd (k_pt (K := K) rfl (pv 3)) (blkOk_by (N := ["_law_script", "_law_hand_here", "_law_turn", "_law_sizes_here", "_law_width_here", "_law_boxes", "_law_one", "_law_other", "_law_pairs", "_law_fine", "_law_told", "_law_some", "_law_thing", "_law_wide", "_law_high"]) (sc := defScope (top 81)) (by decide +kernel)) (fun _ _ _ _ _ => (pg_tup rfl (pgs_cons (pg_name (i := 13) sc_law.nd rfl (by first | exact Or.inl rfl | exact Or.inr rfl)) (pgs_cons (pg_name (i := 14) sc_law.nd rfl (by first | exact Or.inl rfl | exact Or.inr rfl)) pgs_nil)))) (fun _ _ _ _ _ => pts_nil) (fun _ _ _ _ _ => (cl (ok_law_draw T) (hr.mono (by decide)) rfl (pa_cons (pv 1) (pa_cons (pe_op op_add (pe_op op_sub (pv 4) (pv 13)) pe_int) pa_nil))))) pa_nil)) pa_nil)))
        (pss_cons (ps_expr (k_bm (K := K) rfl PySem.F.plainAttrs_list PySem.F.slot_list_append PySem.F.type_list_append mt_append (pv 11) (pa_cons (cl (ok_law_bent T) (hr.mono (by decide)) rfl (pa_cons (pv 1) (pa_cons (pe_ix (k_ixL (K := K) rfl) (pv 11) pe_int (fun _ _ => rfl)) (pa_cons (pv 4) pa_nil)))) pa_nil)))
        (pss_cons (ps_if (pt_val (pv 9)) (pss_one (ps_set (i := 11) sc_law.nd rfl (by first | exact Or.inl rfl | exact Or.inr rfl) (pe_op op_cat (pv 11) (pe_lst (pa_cons (pv 10) (pa_cons (cl (ok_law_bent T) (hr.mono (by decide)) rfl (pa_cons (pv 1) (pa_cons (pe_callTy (k_tuple (K := K) rfl) rfl T.f_tuple b_tuple (pa_cons (pe_callTy (k_list (K := K) rfl) rfl T.f_list b_list (pa_cons (pv 10) pa_nil)) pa_nil)) (pa_cons (pv 4) pa_nil)))) (pa_cons (cl (ok_law_bent T) (hr.mono (by decide)) rfl (pa_cons (pv 1) (pa_cons (pe_callTy (k_tuple (K := K) rfl) rfl T.f_tuple b_tuple (pa_cons (pe_callTy (k_list (K := K) rfl) rfl T.f_list b_list (pa_cons (pv 10) pa_nil)) pa_nil)) (pa_cons (pv 4) pa_nil)))) pa_nil))))))) pss_nil)
        (pss_one (ps_for PassesOwn.never rfl (k_pl (K := K) rfl (pv 11)) (pg_name (i := 12) sc_law.nd rfl (by first | exact Or.inl rfl | exact Or.inr rfl)) (pss_one (ps_if (pt_not (pt_val (cl (ok_law_flag T) (hr.mono (by decide)) rfl (pa_cons (cl (ok_is_stand T) (hr.mono (by decide)) rfl (pa_cons (pv 5) (pa_cons (pv 4) (pa_cons (pv 6) (pa_cons (pv 7) (pa_cons (pv 12) pa_nil)))))) (pa_cons (cl (ok_law_is_stand T) (hr.mono (by decide)) rfl (pa_cons (pv 3) (pa_cons (pv 4) (pa_cons (pv 8) (pa_cons (pv 12) pa_nil))))) pa_nil))))) (pss_one (ps_ret pe_bl)) pss_nil)))))))))))))))))))
        (pss_one (ps_ret pe_bl)))), ?_⟩
    obtain ⟨a, ns, rfl, ha, hl, k⟩ := h
    refine ⟨_, rfl, a, ns, rfl, ha, hl, fun H1 hd ce s1 hH => ?_⟩
    refine ⟨4, rfl, by decide, by decide, for_it (walk_rgk (m := 4) (n := Int.toNat 4) rfl) (fun i σ H' => ∃ v2 v3 v4 v5 v6 v7 v8 v9 v10 v11 v12, σ = [some (.ref a), some (.ref hd), v2, v3, v4, v5, v6, v7, v8, v9, v10, v11, v12, none, none] ∧ Hd H' hd ce)
      ⟨none, none, none, none, none, none, none, none, none, none, none, rfl, hH⟩ (fun _ _ _ _ _ => True.intro) (fun i x σ H2 H2' hi p y => ?_) (fun σ H2 p => ?_)⟩
    · obtain ⟨v2, v3, v4, v5, v6, v7, v8, v9, v10, v11, v12, rfl, hH2⟩ := p
      obtain ⟨rfl, rfl⟩ := y
      refine gset ?_
      dsimp only [tFree]
      refine seq_via (tA := tAsg _ _) (fun σ' H' => ∃ z ss, σ' = [some (.ref a), some (.ref hd), some (.int (i : Nat)), some z, v4, v5, v6, v7, v8, v9, v10, v11, v12, none, none] ∧ Dr hd ce H2' H' ∧ TP H' z ss ∧ 1 ≤ ss.length ∧ ss.length ≤ 40 ∧ Lw ss) (fun R hR => ?_) (fun σ' H' p => ?_)
      · have alt : ∀ {H3 : Hp} (s3 : Dr hd ce H2' H3) {l : Addr} (nl : H3 l = none), Dr hd ce H2' (upd H3 l (.lst [.int 8, .int 4])) ∧ l ≠ hd := fun {_} s3 {_} nl => ⟨s3.same (sn nl), (hH2.ne (s3.nof nl)).1⟩
        refine ⟨_, rfl, _, rfl, rfl, _, rfl, ite2 (fun c => ?_) (fun c => ?_)⟩
        · refine ⟨_, rfl, hd, ce, 8, rfl, by decide, by decide, hH2, fun H3 d s3 _ => ⟨rfl, _, rfl, ite2 (fun c2 => ?_) (fun c2 => ?_)⟩⟩
          · exact ⟨hd, ce, 40, rfl, by decide, by decide, s3.b, fun H4 z ss s4 hz h1 h2 h3 => hR _ _ ⟨z, ss, rfl, s3.trans s4, hz, h1, by omega, h3⟩⟩
          · refine ⟨by show 2 ≤ sizeLine; decide, fun l nl => ?_⟩
            obtain ⟨d3, nl1⟩ := alt s3 nl
            refine ⟨_, rfl, hd, ce, 2, rfl, by decide, by decide, d3.b, fun H4 kk s4 hk => ?_⟩
            obtain ⟨m, em, m1, m2⟩ := kind8 hk
            exact ⟨l, _, (kk : Nat), _, rfl, rfl, SqL.of (s4.lst nl1 upd_same), atI_nat em, hd, ce, m, rfl, m1, m2, s4.b, fun H5 z ss s5 hz h1 h2 h3 => hR _ _ ⟨z, ss, rfl, (d3.trans s4).trans s5, hz, h1, by omega, h3⟩⟩
        · refine ⟨by show 2 ≤ sizeLine; decide, fun l nl => ?_⟩
          obtain ⟨d3, nl1⟩ := alt (.refl hH2) nl
          refine ⟨_, rfl, hd, ce, 2, rfl, by decide, by decide, d3.b, fun H4 kk s4 hk => ?_⟩
          obtain ⟨m, em, m1, m2⟩ := kind8 hk
          exact ⟨l, _, (kk : Nat), _, rfl, rfl, SqL.of (s4.lst nl1 upd_same), atI_nat em, hd, ce, m, rfl, m1, m2, s4.b, fun H5 z ss s5 hz h1 h2 h3 => hR _ _ ⟨z, ss, rfl, (d3.trans s4).trans s5, hz, h1, by omega, h3⟩⟩
      obtain ⟨z, ss, rfl, d3, hz, h1, h40, hLw⟩ := p
      have wf := lw_wf hLw h1 h40
      obtain ⟨za, zv, rfl, hza, hzP⟩ := id hz
      have lz := Paired.length hzP
      refine ⟨_, rfl, _, rfl, hd, ce, .ref za, ss, rfl, hz, h1, h40, hLw, d3.b, fun H4 w s4 hw hw2 => ?_⟩
      have d4 := d3.trans s4
      have hz4 := hz.up s4.kp
      refine ⟨_, rfl, fun bx dx nbx ndx nxx => ?_⟩
      have sB : Same H4 (upd (upd H4 dx (.own bx)) bx (.ins (cB K) dx [])) := (sn ndx).trans (sn (by rw [upd_ne (Ne.symm nxx)]; exact nbx))
      refine ⟨bx, dx, .ref za, ss, rfl, upd_same, hz4.up (kp sB), wf, fun H5 k5 hx5 => ⟨rfl, ?_⟩⟩
      have s5 : Same H4 H5 := fun b u q => k5 b u (ne_of_none q nbx) (sB b u q)
      have d5 := d4.same s5
      have hz5 := hz4.up (kp s5)
      have hB5 : BX K H5 (.ref bx) ss := ⟨bx, dx, .ref za, rfl, hx5, hz5⟩
      have hza5 : H5 za = some (.tup zv) := s5 _ _ (s4.kp.tup hza)
      refine ⟨_, rfl, _, rfl, za, zv, rfl, .inr (SqT.of hza5), hd, ce, zv.length, rfl, by omega, by omega, d5.b, fun H6 a1 one s6 na1 hz1 ho => ?_⟩
      refine ⟨_, rfl, _, rfl, za, zv, rfl, .inr (SqT.of (s6.kp.tup hza5)), hd, ce, zv.length, rfl, by omega, by omega, s6.b, fun H7 a2 other s7 na2 hz2 ho2 => ⟨_, _, rfl, ?_⟩⟩
      rw [lz] at ho ho2
      have d6 := d5.trans s6
      have d7 := d6.trans s7
      have n12 : a1 ≠ a2 := fun e => by
        obtain ⟨o, q, _⟩ := hz1
        rw [e, na2] at q
        cases q
      have b1 := d5.nof na1
      have b2 := d6.nof na2
      refine ⟨_, rfl, _, rfl, a1, a2, ss.length, one, other, rfl, hz1.dr s7, hz2, ho, ho2, h40, fun H8 D ws zs s8 hLP hzl hzs => ?_⟩
      have d8 := d7.same s8
      have k58 : Kp H5 H8 := (s6.trans s7).kp.trans (kp s8)
      have nDhd : D ≠ hd := fun e => by
        obtain ⟨cs, i', b', st, n', h0, _, _⟩ := d8.b
        have q := hLP.1
        rw [e, h0] at q
        have q2 := HO.lst.inj (Option.some.inj q)
        have pp := hLP.2
        rw [← q2] at pp
        cases pp with
        | cons _ t =>
          cases t with
          | cons h2 _ =>
            obtain ⟨_, e3, _⟩ := h2
            cases e3
      have hz8 := hz5.up k58
      have hB8 := hB5.up k58
      have hza8 := k58.tup hza5
      have hzP8 := prd_imp hzP fun _ _ q => q.up ((s4.kp.trans (kp s5)).trans k58)
      refine ⟨_, rfl, _, rfl, _, rfl, za, rfl, ⟨_, SqT.of hza8⟩, lc_map ss (fun s => .int s.1) (walk_tupn lz) (by omega) (fun H' s => SqT.of (s _ _ hza8)) (fun m y x H9 H9' hy s9 yy Qt kk => ?_) (fun D2 H9 nD2 s9 hD2 => ?_)⟩
      · obtain ⟨rfl, hx⟩ := yy
        obtain ⟨x', g1, c, rfl, hc⟩ := prd_get hzP8 hy
        cases Option.some.inj (g1.symm.trans hx)
        exact ⟨c, _, rfl, SqT.of (s9 _ _ hc), rfl, _, _, rfl, _, _, rfl, rfl, rfl, _, rfl, kk _ (Same.refl _)⟩
      have eWd : ss.map (fun s => V.int s.1) = (List.range ss.length).map fun x => V.int (wd ss x) := by
        have e : ss.map (fun s => V.int s.1) = ((List.range ss.length).map (wd ss)).map V.int := by
          rw [← ss_map, List.map_map]
          rfl
        rw [e, List.map_map]
        rfl
      rw [eWd] at hD2
      refine ⟨a1, a2, D2, ss.length, one, other, wd ss, rfl, (hz1.dr s7).up (s8.trans s9), hz2.up (s8.trans s9), ho, ho2, h40, hD2, fun H10 s10 => ⟨_, rfl, _, _, rfl, rfl, ?_⟩⟩
      have s8A := (s8.trans s9).trans s10
      have d10 := d7.same s8A
      have kA := kp (s9.trans s10)
      have hf : decide (mx0 (one.map (best one other (wd ss))) ≤ w) = fine one other (wd ss) w := rfl
      obtain ⟨o1, q1, _⟩ := (hz1.dr s7).up s8A
      obtain ⟨o2, q2, _⟩ := hz2.up s8A
      have hwd : ∀ x, x < ss.length → wd ss x ≤ w := fun x hx => hw (wd ss x, ht ss x) (List.mem_of_getElem? (ss_at hx))
      have h0 : 0 ≤ w := by
        have := hwd 0 (by omega)
        have := (wf.w1 0 (by omega)).1
        omega
      have hwM : w ≤ 1000000 := by omega
      have sz := sz_of (v1 := .tup ((NI one).map V.int)) (v2 := .tup ((NI other).map V.int)) q1 q2
      have bagU : Bag K hd ce (upd (upd H10 a1 (.tup ((NI one).map V.int))) a2 (.tup ((NI other).map V.int))) (.ref za) (.ref bx) (.ref a1) (.ref a2) D ws ss zs one other :=
        ⟨((d10.mut b1).mut b2).b, (hz8.up kA).z sz, (hB8.up kA).z sz, ⟨a1, rfl, by rw [upd_ne n12, upd_same]⟩, ⟨a2, rfl, upd_same⟩, (hLP.up (s9.trans s10)).z sz, nDhd⟩
      have dU := (d10.mut (o := .tup ((NI one).map V.int)) b1).mut (o := .tup ((NI other).map V.int)) b2
      refine gset ?_
      dsimp only
      refine seq_via (tA := tUnl _ _) (fun σ' H' => ∃ f, σ' = [some (.ref a), some (.ref hd), some (.int (i : Nat)), some (.ref za), some (.int w), some (.ref bx), some (.ref a1), some (.ref a2), some (.ref D), some (.bl f), v10, v11, v12, none, none] ∧ fine one other (wd ss) w = f ∧ Dr hd ce H2' H' ∧ Bag K hd ce H' (.ref za) (.ref bx) (.ref a1) (.ref a2) D ws ss zs one other) (fun R hR => ?_) (fun σ' H' p => ?_)
      · refine ⟨a1, o1, _, b1, q1, a2, o2, _, b2, by rw [upd_ne (Ne.symm n12)]; exact q2, ?_⟩
        have hzaU := sz _ _ (fun _ _ z => by cases z) (kA.tup hza8)
        refine ⟨_, rfl, za, zv, rfl, .inr (SqT.of hzaU), _, _, rfl, rfl, _, rfl, ite2 (fun c1 => ?_) (fun c1 => if0 rfl (hR _ _ ⟨_, rfl, hf.symm, dU, bagU⟩))⟩
        refine ⟨_, rfl, _, _, rfl, rfl, _, rfl, ite2 (fun c2 => ?_) (fun c2 => if0 rfl (hR _ _ ⟨_, rfl, hf.symm, dU, bagU⟩))⟩
        have e1 : ((zv.length : Nat) : Int) < 5 := of_decide_eq_true c1
        have e2 : w < 7 := of_decide_eq_true c2
        refine ⟨_, rfl, _, rfl, _, rfl, .ref za, w, D, ws, ss, zs, rfl, bagU.hz, by omega, by omega, fun x hx => by have := wf.w1 x hx; omega, by omega, bagU.hD, fun z hzm => ((hzs z).mp hzm).1, fun H11 b s11 hb => ⟨_, rfl, rfl, _, rfl, if0 ?_ (hR _ _ ⟨_, rfl, hf.symm, dU.same s11, bagU.sm s11⟩)⟩⟩
        have ebf : b = decide (mx0 (one.map (best one other (wd ss))) ≤ w) := Bool.eq_iff_iff.mpr (hb.trans ((pref_stand ho ho2 hzs).trans (fine_iff wf ho h0 hf).symm))
        rw [ebf]
        simp
      clear hzP8 hza8 hzP hza hza5 hz1 hz2 q1 q2 sz bagU dU kA
      obtain ⟨f, rfl, hfe, dU, bagU⟩ := p
      refine seq_via (tA := tAsg _ _) (fun σ' H' => ∃ told, σ' = [some (.ref a), some (.ref hd), some (.int (i : Nat)), some (.ref za), some (.int w), some (.ref bx), some (.ref a1), some (.ref a2), some (.ref D), some (.bl f), some told, v11, v12, none, none] ∧ Dr hd ce H2' H' ∧ Bag K hd ce H' (.ref za) (.ref bx) (.ref a1) (.ref a2) D ws ss zs one other ∧ TF ss one other f H' told) (fun R hR => ?_) (fun σ' H' p => ?_)
      · exact ⟨_, rfl, _, rfl, _, rfl, _, rfl, .ref bx, .ref a1, .ref a2, ss, w, one, other, rfl, bagU.hB, wf, hwd, h0, hwM, bagU.h1, bagU.h2, ho, ho2, fun H' z s hfz hz => hR _ _ ⟨z, rfl, dU.same s, bagU.sm s, fun _ => hz, fun q => (by rw [← hfe, hfz] at q; cases q)⟩, fun H' s hfz => hR _ _ ⟨.non, rfl, dU.same s, bagU.sm s, fun q => (by rw [← hfe, hfz] at q; cases q), fun _ => rfl⟩⟩
      clear bagU dU
      obtain ⟨told, rfl, dU, bagU, tf⟩ := p
      refine seq_via (tA := tIfS _ _ _) (fun σ' H' => σ' = [some (.ref a), some (.ref hd), some (.int (i : Nat)), some (.ref za), some (.int w), some (.ref bx), some (.ref a1), some (.ref a2), some (.ref D), some (.bl f), some told, v11, v12, none, none] ∧ Dr hd ce H2' H' ∧ Bag K hd ce H' (.ref za) (.ref bx) (.ref a1) (.ref a2) D ws ss zs one other ∧ TF ss one other f H' told) (fun R hR => ?_) (fun σ' H' p => ?_)
      · refine ⟨_, rfl, _, rfl, _, rfl, _, rfl, .ref bx, .ref a1, .ref a2, ss, w, one, other, rfl, bagU.hB, wf, hwd, hwM, bagU.h1, bagU.h2, ho, ho2, fun H' s => ⟨_, rfl, _, f, rfl, _, rfl, ifn0 (by rw [hfe]; exact beq_self_eq_true f) ?_⟩⟩
        refine ⟨_, rfl, rfl, _, rfl, rfl, _, rfl, if0 (told_ne (fun c => ?_) tf.2) (hR _ _ ⟨rfl, dU.same s, bagU.sm s, tf.up (kp s)⟩)⟩
        obtain ⟨b, e, _⟩ := tf.1 c
        exact ⟨b, e⟩
      clear bagU dU tf
      obtain ⟨rfl, dU, bagU, tf⟩ := p
      refine seq_via (tA := tIfS _ _ _) (fun σ' H' => σ' = [some (.ref a), some (.ref hd), some (.int (i : Nat)), some (.ref za), some (.int w), some (.ref bx), some (.ref a1), some (.ref a2), some (.ref D), some (.bl f), some told, v11, v12, none, none] ∧ Dr hd ce H2' H' ∧ Bag K hd ce H' (.ref za) (.ref bx) (.ref a1) (.ref a2) D ws ss zs one other ∧ TF ss one other f H' told) (fun R hR => ?_) (fun σ' H' p => ?_)
      · refine ⟨_, rfl, _, rfl, ite2 (fun c => ?_) (fun c => hR _ _ ⟨rfl, dU, bagU, tf⟩)⟩
        have hstd := stand_lef ho h0 (hfe.trans c)
        obtain ⟨tb, et, htb⟩ := tf.1 c
        subst et
        refine ⟨_, rfl, _, rfl, _, rfl, _, rfl, .ref za, .ref tb, w, D, ws, ss, zs, one, other, rfl, bagU.hz, h40, bagU.hD, hzl, ho, ho2, hzs, th_tup htb kd_ints, fun H' b s hb => ⟨_, rfl, ifn0 (hb.mpr ((GS.of htb).mpr ⟨lefL_len, hstd⟩)) ?_⟩⟩
        have bag2 := bagU.sm s
        exact ⟨_, rfl, _, rfl, _, rfl, _, rfl, _, rfl, .ref bx, .ref za, .ref a1, .ref a2, .ref tb, ss, w, one, other, lefL ss.length one other (wd ss), rfl, bag2.hB, bag2.hz, wf, bag2.h1, bag2.h2, ho, ho2, ⟨tb, rfl, s _ _ htb⟩, lefL_len, hstd, fun H'' s2 => ⟨_, rfl, ifn0 rfl (hR _ _ ⟨rfl, dU.same (s.trans s2), bagU.sm (s.trans s2), tf.up (kp (s.trans s2))⟩)⟩⟩
      clear bagU dU tf
      obtain ⟨rfl, dU, bagU, tf⟩ := p
      refine seq_via (tA := tAsg _ _) (fun σ' H' => ∃ (so t : Addr) (L : List Int), σ' = [some (.ref a), some (.ref hd), some (.int (i : Nat)), some (.ref za), some (.int w), some (.ref bx), some (.ref a1), some (.ref a2), some (.ref D), some (.bl f), some told, some (.ref so), v12, none, none] ∧ Dr hd ce H2' H' ∧ Bag K hd ce H' (.ref za) (.ref bx) (.ref a1) (.ref a2) D ws ss zs one other ∧ TF ss one other f H' told ∧ H' so = some (.lst [.ref t]) ∧ so ≠ hd ∧ H2' so = none ∧ D ≠ so ∧ H' t = some (.tup (L.map V.int)) ∧ L.length = ss.length) (fun R hR => ?_) (fun σ' H' p => ?_)
      · obtain ⟨_, yv, ez, hyv, hyP⟩ := bagU.hz
        cases ez
        have ly := Paired.length hyP
        refine ⟨_, rfl, za, rfl, ⟨_, SqT.of hyv⟩, lc_dr (hd := hd) (ce := ce) (walk_tupn ly) (fun i ys _ => ∃ L : List Int, ys = L.map V.int ∧ L.length = i) (by omega) (fun _ _ _ _ _ h => h) (fun i ys _ ⟨L, e, l⟩ => by rw [e, List.length_map, l]; exact Nat.le_refl _) bagU.hH (fun H' s => SqT.of (s.kp.tup hyv)) ⟨[], rfl, rfl⟩ (fun m x ys H9 H9' hm s9 hS y Qt kk => ?_) (fun Dl ys H9 nDl s9 hDl hS => ?_)⟩
        · obtain ⟨rfl, hx⟩ := y
          obtain ⟨L, rfl, hL⟩ := hS
          obtain ⟨x', g1, c, rfl, hc⟩ := prd_get hyP (ss_at hm)
          cases Option.some.inj (g1.symm.trans hx)
          have wm := hwd m hm
          refine ⟨c, _, rfl, SqT.of (s9.kp.tup hc), rfl, _, _, rfl, _, _, rfl, rfl, rfl, _, rfl, _, rfl, _, rfl, _, _, rfl, rfl, _, _, rfl, rfl, hd, ce, _, rfl, ?_, ?_, s9.b, fun H10 d s10 _ => kk _ H10 s10 ⟨L ++ [(d : Int)], by rw [List.map_append]; rfl, by rw [List.length_append, List.length_singleton, hL]⟩⟩
          · show 0 < w - wd ss m + 1
            omega
          · show w - wd ss m + 1 < 1073741824
            have := (wf.w1 m hm).1
            omega
        · obtain ⟨L, rfl, hL⟩ := hS
          refine ⟨Dl, _, rfl, .inl ⟨SqL.of hDl, fun t nt => ⟨by show 1 ≤ sizeLine; decide, fun so nso => ?_⟩⟩⟩
          have st := sn (o := .tup (L.map V.int)) nt
          have sso := sn (o := .lst [.ref t]) nso
          have dd := (s9.same st).same sso
          exact hR _ _ ⟨so, t, L, rfl, dU.trans dd, bagU.dr dd, tf.up dd.kp, upd_same, (bagU.hH.ne ((s9.same st).nof nso)).1, dU.nof ((s9.same st).nof nso), ne_of_none bagU.hD.1 ((s9.same st).nof nso), sso _ _ upd_same, hL⟩
      clear bagU dU tf
      obtain ⟨so, t, L, rfl, dU, bagU, tf, hso, nso, hso2, nDso, htt, hL⟩ := p
      refine seq_via (tA := tDrop _) (fun σ' H' => ∃ (so : Addr) (xs : List V), σ' = [some (.ref a), some (.ref hd), some (.int (i : Nat)), some (.ref za), some (.int w), some (.ref bx), some (.ref a1), some (.ref a2), some (.ref D), some (.bl f), some told, some (.ref so), v12, none, none] ∧ Dr hd ce H2' H' ∧ Bag K hd ce H' (.ref za) (.ref bx) (.ref a1) (.ref a2) D ws ss zs one other ∧ TF ss one other f H' told ∧ H' so = some (.lst xs) ∧ so ≠ hd ∧ xs.length ≤ 2 ∧ ∀ x ∈ xs, Th H' x) (fun R hR => ?_) (fun σ' H' p => ?_)
      · refine ⟨_, rfl, .inl ⟨rfl, _, SqL.of hso⟩, _, rfl, _, rfl, so, _, 0, _, rfl, rfl, SqL.of hso, atI_nat (j := 0) rfl, _, rfl, hd, ce, .ref t, L, w, rfl, ⟨t, rfl, htt⟩, by omega, by omega, bagU.hH, fun H9 z s9 hz9 => ?_⟩
        have hso9 := s9.lst nso hso
        have ht9 := s9.kp.tup htt
        have dm : Dr hd ce H2' (upd H9 so (.lst ([.ref t] ++ [z]))) := (dU.trans s9).mut hso2
        have k9 : Kp H9 (upd H9 so (.lst ([.ref t] ++ [z]))) := kpL hso9
        refine ⟨so, [.ref t], z, rfl, rfl, hso9, by show 1 < sizeLine; decide, hR _ _ ⟨so, [.ref t] ++ [z], rfl, dm, (bagU.dr s9).put hso9 nDso dm.b, (tf.up s9.kp).up k9, upd_same, nso, by show 2 ≤ 2; decide, ?_⟩⟩
        exact alc ((th_tup ht9 kd_ints).up k9) (alc (hz9.up k9) al0)
      clear bagU dU tf hso htt
      obtain ⟨so, xs, rfl, dU, bagU, tf, hso, nso, hxl, hxs⟩ := p
      refine seq_via (tA := tIfS _ _ _) (fun σ' H' => ∃ (so : Addr) (xs : List V), σ' = [some (.ref a), some (.ref hd), some (.int (i : Nat)), some (.ref za), some (.int w), some (.ref bx), some (.ref a1), some (.ref a2), some (.ref D), some (.bl f), some told, some (.ref so), v12, none, none] ∧ Dr hd ce H2' H' ∧ Bag K hd ce H' (.ref za) (.ref bx) (.ref a1) (.ref a2) D ws ss zs one other ∧ TF ss one other f H' told ∧ H' so = some (.lst xs) ∧ so ≠ hd ∧ xs.length ≤ 5 ∧ ∀ x ∈ xs, Th H' x) (fun R hR => ?_) (fun σ' H' p => ?_)
      · refine ⟨_, rfl, _, rfl, ite2 (fun c => ?_) (fun c => hR _ _ ⟨so, xs, rfl, dU, bagU, tf, hso, nso, by omega, hxs⟩)⟩
        obtain ⟨tb, et, htb⟩ := tf.1 c
        subst et
        have l0 : (lefL ss.length one other (wd ss)).length = ss.length := lefL_len
        refine ⟨_, rfl, _, rfl, _, rfl, _, rfl, tb, _, rfl, .inr (SqT.of htb), fun l1 n1 => ?_⟩
        have q1 := sn (o := .lst ((lefL ss.length one other (wd ss)).map V.int)) n1
        refine ⟨l1, _, rfl, .inl ⟨SqL.of upd_same, fun t1 m1 => ?_⟩⟩
        have q2 := sn (o := .tup ((lefL ss.length one other (wd ss)).map V.int)) m1
        have e2 := Dr.of bagU.hH (q1.trans q2)
        refine ⟨_, rfl, hd, ce, .ref t1, lefL ss.length one other (wd ss), w, rfl, ⟨t1, rfl, upd_same⟩, by omega, by omega, e2.b, fun H9 z9 s9 hz9 => ?_⟩
        have e9 := e2.trans s9
        refine ⟨_, rfl, _, rfl, tb, _, rfl, .inr (SqT.of (e9.kp.tup htb)), fun l2 n2 => ?_⟩
        have q3 := sn (o := .lst ((lefL ss.length one other (wd ss)).map V.int)) n2
        refine ⟨l2, _, rfl, .inl ⟨SqL.of upd_same, fun t2 m2 => ?_⟩⟩
        have q4 := sn (o := .tup ((lefL ss.length one other (wd ss)).map V.int)) m2
        have e10 := e9.same (q3.trans q4)
        refine ⟨_, rfl, hd, ce, .ref t2, lefL ss.length one other (wd ss), w, rfl, ⟨t2, rfl, upd_same⟩, by omega, by omega, e10.b, fun H11 z11 s11 hz11 => ?_⟩
        have e11 := e10.trans s11
        refine ⟨by show 3 ≤ sizeLine; decide, fun l3 n3 => ?_⟩
        have q5 := sn (o := .lst [.ref tb, z9, z11]) n3
        refine ⟨so, l3, xs, _, rfl, rfl, q5 _ _ (e11.lst nso hso), upd_same, ?_, fun pp np => ?_⟩
        · have := sizeLine_eq
          show xs.length + 3 ≤ _
          omega
        have q6 := sn (o := .lst (xs ++ [.ref tb, z9, z11])) np
        have e13 := (e11.same q5).same q6
        refine hR _ _ ⟨pp, _, rfl, dU.trans e13, bagU.dr e13, tf.up e13.kp, upd_same, (bagU.hH.ne ((e11.same q5).nof np)).1, by rw [List.length_append]; show xs.length + 3 ≤ 5; omega, ?_⟩
        have kq : Kp H11 _ := kp (q5.trans q6)
        exact ala (fun x hx => (hxs x hx).up e13.kp) (alc ((th_tup htb kd_ints).up e13.kp) (alc (hz9.up (((kp (q3.trans q4)).trans s11.kp).trans kq)) (alc (hz11.up kq) al0)))
      clear bagU dU tf hso hxs
      obtain ⟨so, xs, rfl, dU, bagU, tf, hso, nso, hxl, hxs⟩ := p
      refine ⟨_, rfl, so, rfl, ⟨_, SqL.of hso⟩, for_it (walk_listn (n := xs.length) rfl) (fun m σ H'' => ∃ v12, σ = [some (.ref a), some (.ref hd), some (.int (i : Nat)), some (.ref za), some (.int w), some (.ref bx), some (.ref a1), some (.ref a2), some (.ref D), some (.bl f), some told, some (.ref so), v12, none, none] ∧ Same H' H'')
        ⟨v12, rfl, Same.refl _⟩ (fun m σ H'' _ p => ?_) (fun m x σ H9 H9' hm p y => ?_) (fun σ H9 p => ?_)⟩
      · obtain ⟨_, _, s⟩ := p
        exact SqL.of (s _ _ hso)
      · obtain ⟨v12, rfl, s9⟩ := p
        obtain ⟨rfl, hx⟩ := y
        have hth := (hxs x (List.mem_of_getElem? hx)).up (kp s9)
        have bag9 := bagU.sm s9
        refine ⟨_, rfl, _, rfl, _, rfl, _, rfl, _, rfl, .ref bx, .ref a1, .ref a2, x, ss, w, one, other, rfl, bag9.hB, wf, hwd, h0, hwM, bag9.h1, bag9.h2, ho, ho2, hth, fun H10 b s10 hb => ?_⟩
        have bag10 := bag9.sm s10
        refine ⟨_, rfl, _, rfl, _, rfl, _, rfl, .ref za, x, w, D, ws, ss, zs, one, other, rfl, bag10.hz, h40, bag10.hD, hzl, ho, ho2, hzs, hth.up (kp s10), fun H11 b2 s11 hb2 => ?_⟩
        have eb : b = b2 := Bool.eq_iff_iff.mpr (hb.trans ((GS.same hth s10).symm.trans hb2.symm))
        exact ⟨b, b2, rfl, _, rfl, ifn0 (by rw [eb]; exact beq_self_eq_true b2) ⟨_, rfl, (s9.trans s10).trans s11⟩⟩
      · obtain ⟨v12, rfl, s9⟩ := p
        exact ⟨_, _, _, _, _, _, _, _, _, _, _, rfl, (dU.same s9).b⟩
    · obtain ⟨v2, v3, v4, v5, v6, v7, v8, v9, v10, v11, v12, rfl, hH2⟩ := p
      exact k H2
end K20

namespace K20
open PySem PySem.Spec PyProof.Rows L2
/-! ### the head -/
def nm0 : List PySem.Str := ["StrokeError", "BadBoxes", "NoPicture", "NoScript", "NotFree", "NoWidth", "NoList", "is_integer", "is_within", "is_below", "is_pair", "is_sized"]
def nm1 : List PySem.Str := ["are_integers", "is_order", "MOST_BOXES", "MOST_SIZE", "is_size", "Boxes", "are_places", "meet", "in_row", "in_column", "overlap", "all_overlaps"]
def nm2 : List PySem.Str := ["is_shown", "check_picture", "LEVEL", "UPRIGHT", "is_word", "is_stroke", "behind", "beside", "gap", "is_let", "MOST_STROKES", "is_form"]
def nm3 : List PySem.Str := ["run_of", "check_script", "led", "is_script", "MOST_WIDTH", "is_width", "check_width", "check_list", "check_lists", "places_listed", "listed", "spots"]
def nm4 : List PySem.Str := ["turned_ahead", "heaviest", "widths", "may_pass", "can_pass", "lefts_for", "are_inside", "stand", "is_stand", "are_apart", "_law_draw", "_law_deep"]
def nm5 : List PySem.Str := ["_law_hand", "_law_sizes", "_law_width", "_law_shuffled", "_law_order", "_law_turned", "_law_weightiest", "_law_flag", "_law_whole", "_law_is_stand", "_law_some_stand", "_law_bent"]
def nm6 : List PySem.Str := ["_law_strokes_right"]
def nms : List PySem.Str := nm0 ++ (nm1 ++ (nm2 ++ (nm3 ++ (nm4 ++ (nm5 ++ (nm6))))))
abbrev R : PySem.W.OpenRow := PySem.W.OpenLaw.row PySem.Challenge.rw_fourstrokes_k20_whole_passes_and_stands
abbrev hk : PySem.W.Hook := He.hookD 4 fa fn
def ob (s : PySem.W.SharedT) : He.AlD := He.obsDG 4 fa fn (HandSHeadRun.getT s)
theorem ob_eq (s : PySem.W.SharedT) : ob s = hk.obs s.abs := He.obsDG_eq (HandSHeadRun.getT_eq s)
theorem run (w : World) : HandSHeadRun.RunEq R (PySem.W.view R.prog [81]) hk ob 4000 nms w := by
  intro os
  kernel_rfl
end K20
namespace K20
open PySem PySem.Spec PyProof.Rows L2
/-- the law's def, by what the head says -/
theorem facts {P : Program} {w : World} {K : PySem.W.Frag} {h : Heap} {mg : Str → Option Value} {f : Addr} (X : K.In h) (G : h.Ns mainGlobals mg) (hfa : mg ("law" : Str) = some (.ref f)) (c : He.SaysD fa fn K) :
    ∃ fd : FuncData, (∀ (s : Shared) (v : Value), BindsTo s fd ⟨[v], []⟩ [("_law_script", v)]) ∧ ∀ base : Heap, K.In base → base.Ns mainGlobals mg → FnOk P w K mg base CX0 10 f fd ["_law_script"] (sp_law K) := by
  have T : Tx K mg := Tx.mk' X G c
  obtain ⟨hm, fd, F⟩ := T.t_law
  have e := hfa.symm.trans hm
  cases e
  have b := FunD.bindsA (ps := ["_law_script"]) F fun _ _ _ _ _ _ us hl => match us, hl with | [_], _ => rfl
  exact ⟨fd, fun s v => b s [v] rfl, fun base _ _ => ok_law T F⟩
end K20

open PySem PySem.W PySem.Calls PyProof.Rows
theorem PySem.Challenge.cw_fourstrokes_k20_whole_passes_and_stands_holds : PySem.Challenge.rw_fourstrokes_k20_whole_passes_and_stands.Holds := by
  w_on; o_law
  refine HandSHeadRun.head_any (r := OpenLaw.row PySem.Challenge.rw_fourstrokes_k20_whole_passes_and_stands) (q := view (OpenLaw.row PySem.Challenge.rw_fourstrokes_k20_whole_passes_and_stands).prog [81]) (H := K20.hk) (ob := K20.ob) (M := 4000) (loose := K20.nms) (d := HandSHeadRun.topDef (OpenLaw.row PySem.Challenge.rw_fourstrokes_k20_whole_passes_and_stands).prog 81) (kwd := []) K20.ob_eq
    (by kernel_rfl) (fun s => by kernel_rfl) K20.run (by kernel_rfl) (by kernel_rfl) (by kernel_rfl) (by rfl) (by first | assumption | decide +kernel) (by decide +kernel) ⟨rfl, rfl, rfl, rfl, rfl, by decide +kernel⟩ ?hw ?hc
  case hw => w_witness2
  case hc =>
    refine L2.walk_ofE (l := PySem.Challenge.rw_fourstrokes_k20_whole_passes_and_stands) (n := 63) (k := 10) (x := "_law_script") (CX := L2.CX0) rfl (by decide) (by kernel_rfl) ⟨rfl, by decide, by decide⟩ ?F (fun _ _ _ _ z => z)
    intro w mg fa h Y G hmg0
    obtain ⟨K, KX, c⟩ := Y
    have hmg : mg ("law" : PySem.Str) = some (.ref fa) := by
      have e : (HandSHeadRun.topDef (OpenLaw.row PySem.Challenge.rw_fourstrokes_k20_whole_passes_and_stands).prog 81).name = ("law" : PySem.Str) := by kernel_rfl
      rw [← e]
      exact hmg0
    obtain ⟨fd, hb, hF⟩ := K20.facts (P := (PySem.Challenge.rw_fourstrokes_k20_whole_passes_and_stands).prog) (w := w) KX G hmg c
    exact ⟨K, fd, K20.sp_law K, KX, hb, fun H a ns hl _ hS => ⟨a, ns, rfl, hS, Nat.le_trans hl (by decide), fun _ => rfl⟩, hF⟩
