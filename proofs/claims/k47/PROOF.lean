import PyProof.Rows.All
import Wide.All
import OpenK.AllK
import Wide.FinOn
import HandS.ForMost
import HandS.IsInst
import HandS.SortKw
import HandS.Zip
import HandS.Deep
import HandS.CallLocal
import HandS.Defaults
import HandS.DictTup
import HandS.TupAny
import HandS.TryOnly
import HandS.Style
import HandS.Walk
import HandS.Conv
import HandS.Wide
import HandS.SlotsOwn
import HandS.RaiseMore
import HandS.TupLen
import KE.GoesNewDict
import KE.KIndexOf
import KE.KMinKey
import PyProof.Rows.SortShellAny
import PySem.Challenge.RW_boxinbox_k47_whole_least_bundle
import HandS.Codes
import HandS.Head0
import HandS.Head1
import HandS.Head2
import HandS.HeadEnd
import HandS.HeadHook1
import HandS.HeadHook2
import HandS.HeadHook3
import HandS.HeadHook4
import KE.KStateDown
import KE.KDictWalk
import HandS.FromBytesMap
set_option Elab.async false
set_option linter.all false
set_option maxRecDepth 100000
set_option maxHeartbeats 4000000
/-! BxA: rules that the layer lacks. -/
namespace Bx
open PySem PySem.Spec PyProof.Rows L2

section
variable {X : Cx}
/-- x in t, t a tuple of data of any depth -/
def rInT (K : PySem.W.Frag) : R2 := fun x y H Q => ∃ (d : PyData) (ds : List PyData), Dp K H x d ∧ Dp K H y (.tuple ds) ∧ SeqAt.shaped d = true ∧ SeqAt.shaped (.tuple ds) = true ∧
  Q (.bl (ds.any fun z => PyData.eqv z d)) H
theorem op_inT (hu : X.A.units + 65 < cLine) : OpR X (compareOp .In) (rInT X.K) := fun pins s σ H x y v u Q I rx ry h => by
  obtain ⟨d, ds, h1, h2, s1, s2, q⟩ := h
  have ⟨as, r1⟩ := Dp.reads I d x v h1 rx
  have ⟨bs, r2⟩ := Dp.reads I (.tuple ds) y u h2 ry
  have e1 := SeqAt.canLay_of_shaped s1
  have e2 : PyData.canLayAll0 ds = true := SeqAt.canLay_of_shaped s2
  refine SeqAt.in_tuple_reads r2 r1 e2 e1 ?_ ⟨V.bl _, H, I, rfl, q⟩
  exact room_in_shaped s1 hu

/-- t.index(n), t a tuple of ints, n in it -/
theorem mt_tidx : MtR X "tuple.index" (fun x xs H Q => ∃ (p : Addr) (ns : List Int) (k : Int), x = .ref p ∧ xs = [.int k] ∧ SqT X.K H p (ns.map V.int) ∧ k ∈ ns ∧ Q (.int (ns.idxOf k : Nat)) H) :=
  fun pins s σ H x xs v us Q I rx rxs h => by
    obtain ⟨p, ns, k, rfl, rfl, ht, hk, q⟩ := h
    cases rx
    obtain ⟨u, rfl, t, rfl⟩ := vals1 rxs
    obtain ⟨its, rv, hp, _⟩ := I.tuple ht
    exact SeqAt.tuple_index_ints (vs := its) hp rv.ints hk ⟨V.int _, H, I.tok _, ⟨_, rfl⟩, q⟩
end
end Bx
set_option Elab.async false
set_option linter.all false
set_option maxRecDepth 100000
set_option maxHeartbeats 4000000
/-! BxB: sorted of a tuple, max of a tuple. -/
namespace Bx
open PySem PySem.Spec PyProof.Rows L2

section
variable {prog : Program} {w : World} {A : Around} {E : Value → Shared → Prop} {s : Shared}
/-- sorted(t, ..): what list.sort does to a new list of the items (told by G) is what comes -/
theorem sorted_tup {t : Addr} {vs : List Value} {kw : List (Str × Value)} {G : Array Value → Prop} {Q : Value → Shared → Prop} (ht : IsTup s.heap t vs.toArray) (hz : vs.length ≤ sizeLine)
    (k1 : argsOk "sorted" ⟨[.ref t], kw⟩) (k2 : ∀ a, argsOk "list.sort" ⟨[a], kw⟩)
    (hs : ∀ (h1 : Heap) (a : Addr) (P : PySem.Fin → Shared → Prop) (E' : Value → Shared → Prop), h1.get? a = some (seqObj "list" vs.toArray 0) →
      (∀ out, G out → P (.done (.ret .none)) { s with heap := sortedHeap h1 a vs out }) → wpAny (model prog w) A.in1.in1 (Builtin.«list.sort» ⟨[.ref a], kw⟩) P E' { s with heap := h1 })
    (hQ : ∀ (h1 h' : Heap) (q : Addr) (out : Array Value) (ep : Nat), G out → (∀ b o, s.heap.get? b = some o → h1.get? b = some o) → h1.objs.size ≤ q → (∀ b o, h1.get? b = some o → h'.get? b = some o) →
      h'.get? q = some (seqObj "list" out ep) → Q (.ref q) { s with heap := h' }) :
    wpAny (model prog w) A (call (.builtin "sorted") [.ref t] kw) Q E s := by
  obtain ⟨o, ho, hc, n, hd⟩ := ht
  refine call_function_entry_kw kind_sorted plain_sorted entry_sorted k1 ?_
  unfold Builtin.«sorted»
  refine wpAny_bind (m := checkCount "sorted" 1 1 _) (wpAny_pure ?_)
  refine wpAny_bind (wpAny_collect_seq t (.inr rfl) ho hc hd (fun h1 hk => ?_) (by simpa using hz))
  show wpAny _ _ (newList vs.toArray.toList >>= _) _ _ _
  rw [List.toList_toArray]
  refine wpAny_bind (wpAny_newList ?_ hz)
  have new : (h1.push (seqObj "list" vs.toArray 0)).get? h1.objs.size = some (seqObj "list" vs.toArray 0) := Heap.get?_push_size _ rfl
  refine wpAny_bind (wpAny_holding (wpAny_call_entry_kw slot_list_sort ⟨_, new, rfl⟩ entry_list_sort ?_ (k2 _)))
  refine hs _ _ _ _ new fun out g => ⟨_, rfl, ?_⟩
  refine wpAny_pure ⟨_, rfl, ?_⟩
  obtain ⟨ep, at_⟩ := sortedHeap_at (vs := vs) (out := out) new
  exact hQ h1 _ _ out ep g hk (Nat.le_refl _) (fun b ob e => by
    have lt := Heap.lt_size e
    rw [sortedHeap_old (Nat.ne_of_lt lt) (by rw [size_push']; exact Nat.lt_succ_of_lt lt)]
    exact Heap.get?_push_of_some _ e) at_
end

section
variable {X : Cx}
/-- the list that comes, tracked -/
theorem sorted_laid {pins : List (Addr × Obj)} {σ : L2.St} {H : Hp} {s : Shared} {Q : VK} {h1 h' : Heap} {q : Addr} {out : Array Value} {ep : Nat} {xs : List V} (I : Inv X pins σ H s)
    (hk : ∀ b o, s.heap.get? b = some o → h1.get? b = some o) (hq : h1.objs.size ≤ q) (hk2 : ∀ b o, h1.get? b = some o → h'.get? b = some o) (at_ : h'.get? q = some (seqObj "list" out ep))
    (rv : Vals xs out.toList) (hz : xs.length ≤ sizeLine) (k : ∀ p, H p = none → Q (.ref p) (upd H p (.lst xs))) : EP X pins σ Q (.ref q) { s with heap := h' } := by
  have I1 : Inv X pins σ H { s with heap := h1 } := I.kept (t' := s.toks) hk
  have e : out.toList.toArray = out := by simp
  refine ⟨.ref q, upd H q (.lst xs), I1.laid (t' := s.toks) hk2 hq ⟨hz, out.toList, ep, rv, ?_⟩, rfl, k q (I1.hok.fresh hq)⟩
  rw [e]
  exact at_
/-- sorted(t, reverse=b), t a tuple of ints -/
def rSortTR (K : PySem.W.Frag) (b : Bool) : List V → List V → Hp → VK → Prop := fun vs zs H Q => ∃ (a : Addr) (ns : List Int), vs = [V.ref a] ∧ zs = [.bl b] ∧ SqT K H a (ns.map V.int) ∧ ns.length < 64 ∧
  ∀ (ns' : List Int) (p : Addr), ns'.Perm ns → OrdB b ns' → H p = none → Q (.ref p) (upd H p (.lst (ns'.map V.int)))
theorem cr_sortTR {b : Bool} : CallRK X (.builtin "sorted") [Str.ofString "reverse"] (rSortTR X.K b) := fun pins s σ H vs zs us ws Q I r rz h => by
  obtain ⟨a, ns, rfl, rfl, hs, h64, q⟩ := h
  obtain rfl := Vals.ref1 r
  obtain ⟨w1, rfl, e1⟩ := vals1 rz
  obtain rfl : w1 = Value.bool b := e1
  obtain ⟨its, rv, ht, hz⟩ := I.tuple hs
  have hi := rv.ints
  have hl : its.length < 64 := by rw [← rv.length, List.length_map]; exact h64
  refine sorted_tup (G := fun out => ∃ ns', IntsAre out.toList ns' ∧ ns'.Perm ns ∧ Ordered b ns') ht (by rw [← rv.length]; exact hz) (args_sorted_rev _ _) (fun _ => args_list_sort_rev _ _)
    (fun h1 a P E' ho hP => list_sort_tree_rev (s := { s with heap := h1 }) ho hi hl fun out ns' a1 a2 a3 => hP out ⟨ns', a1, a2, a3⟩) fun h1 h' p out ep g hk hq hk2 at_ => ?_
  obtain ⟨ns', a1, a2, a3⟩ := g
  refine sorted_laid I hk hq hk2 at_ (vals_of_ints a1) ?_ fun p' hp' => q ns' p' a2 ?_ hp'
  · rw [List.length_map, a2.length_eq]
    rw [List.length_map] at hz
    exact hz
  · unfold OrdB
    exact a3
/-- sorted(t), t a tuple of ints -/
def rSortTI (K : PySem.W.Frag) : List V → Hp → VK → Prop := fun vs H Q => ∃ (a : Addr) (ns : List Int), vs = [V.ref a] ∧ SqT K H a (ns.map V.int) ∧ ns.length < 64 ∧
  ∀ (ns' : List Int) (p : Addr), ns'.Perm ns → ns'.Pairwise (· ≤ ·) → H p = none → Q (.ref p) (upd H p (.lst (ns'.map V.int)))
theorem cr_sortTI : CallR X (.builtin "sorted") (rSortTI X.K) := fun pins s σ H vs us Q I r h => by
  obtain ⟨a, ns, rfl, hs, h64, q⟩ := h
  obtain rfl := Vals.ref1 r
  obtain ⟨its, rv, ht, hz⟩ := I.tuple hs
  have hi := rv.ints
  have hl : its.length < 64 := by rw [← rv.length, List.length_map]; exact h64
  refine sorted_tup (kw := []) (G := fun out => ∃ ns', IntsAre out.toList ns' ∧ ns'.Perm ns ∧ ns'.Pairwise (· ≤ ·)) ht (by rw [← rv.length]; exact hz) (args_sorted1 _) (fun _ => args_list_sort _)
    (fun h1 a P E' ho hP => list_sort_tree (s := { s with heap := h1 }) ho hi hl fun out ns' a1 a2 a3 => hP out ⟨ns', a1, a2, a3⟩) fun h1 h' p out ep g hk hq hk2 at_ => ?_
  obtain ⟨ns', a1, a2, a3⟩ := g
  refine sorted_laid I hk hq hk2 at_ (vals_of_ints a1) ?_ fun p' hp' => q ns' p' a2 a3 hp'
  rw [List.length_map, a2.length_eq]
  rw [List.length_map] at hz
  exact hz
/-- sorted(t), t a tuple of texts -/
def rSortTS (K : PySem.W.Frag) : List V → Hp → VK → Prop := fun vs H Q => ∃ (a : Addr) (xs : List Str), vs = [V.ref a] ∧ SqT K H a (xs.map V.str) ∧
  ∀ (ys : List Str) (p : Addr), ys.Perm xs → sortedS ys = true → H p = none → Q (.ref p) (upd H p (.lst (ys.map V.str)))
theorem cr_sortTS : CallR X (.builtin "sorted") (rSortTS X.K) := fun pins s σ H vs us Q I r h => by
  obtain ⟨a, xs, rfl, hs, q⟩ := h
  obtain rfl := Vals.ref1 r
  obtain ⟨its, rv, ht, hz⟩ := I.tuple hs
  have hi := rv.strs
  have hl : its.length ≤ sizeLine := by rw [← rv.length]; exact hz
  refine sorted_tup (kw := []) (G := fun out => ∃ ys, StrsAre out.toList ys ∧ ys.Perm xs ∧ sortedS ys = true) ht hl (args_sorted1 _) (fun _ => args_list_sort _)
    (fun h1 a P E' ho hP => list_sort_treeKAny strKind_oneLt (s := { s with heap := h1 }) ho hi.keysOf (fun v₁ v₂ rest e => keyKind_strs (by rw [← e]; exact hi)) hl fun st' hp hs => by
      obtain ⟨ss', e1, e2, e3⟩ := sorted_out_str hi hp hs
      exact hP _ ⟨ss', e1, e2, e3⟩) fun h1 h' p out ep g hk hq hk2 at_ => ?_
  obtain ⟨ys, a1, a2, a3⟩ := g
  refine sorted_laid I hk hq hk2 at_ (vals_of_strs a1) ?_ fun p' hp' => q ys p' a2 a3 hp'
  rw [List.length_map, a2.length_eq]
  rw [List.length_map] at hz
  exact hz
/-- max(t), t a tuple of ints -/
def rMaxT (K : PySem.W.Frag) : List V → Hp → VK → Prop := fun vs H Q => ∃ (a : Addr) (ns : List Int), vs = [V.ref a] ∧ SqT K H a (ns.map V.int) ∧ 0 < ns.length ∧ ∀ m, m ∈ ns → (∀ y, y ∈ ns → y ≤ m) → Q (.int m) H
end
end Bx
set_option Elab.async false
set_option linter.all false
set_option maxRecDepth 100000
set_option maxHeartbeats 4000000
/-! BxF: the defs by their places, the facts of the head by names. Printed by gen/facts.py. -/
namespace Bx
open PySem PySem.Spec PyProof.Rows L2
def top (i : Nat) : Stmt := PySem.Challenge.pw_boxinbox_k47_whole_least_bundle.main.body.getD i (.Pass ⟨0, 0, 0, 0⟩)
abbrev s_is_whole : Stmt := top 19
abbrev s_is_name : Stmt := top 20
abbrev s_is_order : Stmt := top 21
abbrev s_Sides_init : Stmt := inClass (top 24) 0
abbrev s_Sides_told : Stmt := inClass (top 24) 1
abbrev s_Sides_ranked : Stmt := inClass (top 24) 2
abbrev s_Sides_volume : Stmt := inClass (top 24) 3
abbrev s_Sides_str : Stmt := inClass (top 24) 5
abbrev s_Sides_turned : Stmt := inClass (top 24) 7
abbrev s_are_labels : Stmt := top 29
abbrev s_Parcel_init : Stmt := inClass (top 30) 0
abbrev s_Parcel_name : Stmt := inClass (top 30) 1
abbrev s_Parcel_sides : Stmt := inClass (top 30) 2
abbrev s_Parcel_str : Stmt := inClass (top 30) 11
abbrev s_Heap_init : Stmt := inClass (top 33) 0
abbrev s_Heap_place_of : Stmt := inClass (top 33) 1
abbrev s_Heap_put : Stmt := inClass (top 33) 2
abbrev s_Heap_out : Stmt := inClass (top 33) 3
abbrev s_Heap_parcel : Stmt := inClass (top 33) 4
abbrev s_Heap_names : Stmt := inClass (top 33) 5
abbrev s_Heap_parcels : Stmt := inClass (top 33) 6
abbrev s_is_parcel_turned : Stmt := top 36
abbrev s_are_two_by : Stmt := top 37
abbrev s_has_form : Stmt := top 39
abbrev s_names_in : Stmt := top 40
abbrev s_beside : Stmt := top 41
abbrev s_three_of : Stmt := top 42
abbrev s_is_laying : Stmt := top 43
abbrev s_need_laying : Stmt := top 44
abbrev s_sides_of : Stmt := top 45
abbrev s_turned_three : Stmt := top 46
abbrev s_turned_by : Stmt := top 47
abbrev s_Laid_init : Stmt := inClass (top 50) 0
abbrev s_Laid_holds : Stmt := inClass (top 50) 1
abbrev s_volume_of : Stmt := top 51
abbrev s_need_names : Stmt := top 52
abbrev s_chosen : Stmt := top 53
abbrev s_choices_of : Stmt := top 54
abbrev s_partings_of : Stmt := top 55
abbrev s_all_ways : Stmt := top 56
abbrev s_is_held : Stmt := top 57
abbrev s_with_two : Stmt := top 58
abbrev s_laid_lists : Stmt := top 59
abbrev s_papers_of : Stmt := top 60
abbrev s_least_bundle : Stmt := top 61
abbrev s__law_cell : Stmt := top 63
abbrev s__law_purse : Stmt := top 64
abbrev s__law_take : Stmt := top 65
abbrev s__law_names : Stmt := top 66
abbrev s__law_orders : Stmt := top 67
abbrev s__law_three : Stmt := top 68
abbrev s__law_heap : Stmt := top 69
abbrev s__law_laying : Stmt := top 70
abbrev s__law_picked : Stmt := top 71
abbrev s__law_book : Stmt := top 72
abbrev s__law_span : Stmt := top 73
abbrev s__law_named : Stmt := top 74
abbrev s__law_is_whole : Stmt := top 75
abbrev s__law_is_order : Stmt := top 76
abbrev s__law_choices : Stmt := top 77
abbrev s__law_all_choices : Stmt := top 78
abbrev s__law_held : Stmt := top 79
abbrev s__law_pairs_held : Stmt := top 80
abbrev s__law_list_right : Stmt := top 81
abbrev s__law_shown : Stmt := top 82
abbrev s__law_volume : Stmt := top 83
abbrev s__law_right : Stmt := top 84
abbrev s__law_alike : Stmt := top 85
abbrev s__law_replaced : Stmt := top 86
abbrev s__law_stood : Stmt := top 87
abbrev s__law_asked : Stmt := top 88
abbrev s__law_first_right : Stmt := top 89
abbrev s_law : Stmt := top 90
def d_is_whole : He.DefD := ⟨("is_whole", none), "is_whole", "is_whole", defArgs s_is_whole, defBody s_is_whole, defScope s_is_whole, [], []⟩
def d_is_name : He.DefD := ⟨("is_name", none), "is_name", "is_name", defArgs s_is_name, defBody s_is_name, defScope s_is_name, [], []⟩
def d_is_order : He.DefD := ⟨("is_order", none), "is_order", "is_order", defArgs s_is_order, defBody s_is_order, defScope s_is_order, [], []⟩
def d_Sides_init : He.DefD := ⟨("Sides", some "__init__"), "__init__", "Sides.__init__", defArgs s_Sides_init, defBody s_Sides_init, defScope s_Sides_init, [], []⟩
def d_Sides_told : He.DefD := ⟨("Sides", some "told"), "told", "Sides.told", defArgs s_Sides_told, defBody s_Sides_told, defScope s_Sides_told, [], []⟩
def d_Sides_ranked : He.DefD := ⟨("Sides", some "ranked"), "ranked", "Sides.ranked", defArgs s_Sides_ranked, defBody s_Sides_ranked, defScope s_Sides_ranked, [], []⟩
def d_Sides_volume : He.DefD := ⟨("Sides", some "volume"), "volume", "Sides.volume", defArgs s_Sides_volume, defBody s_Sides_volume, defScope s_Sides_volume, [], []⟩
def d_Sides_str : He.DefD := ⟨("Sides", some "__str__"), "__str__", "Sides.__str__", defArgs s_Sides_str, defBody s_Sides_str, defScope s_Sides_str, [], []⟩
def d_Sides_turned : He.DefD := ⟨("Sides", some "turned"), "turned", "Sides.turned", defArgs s_Sides_turned, defBody s_Sides_turned, defScope s_Sides_turned, [], []⟩
def d_are_labels : He.DefD := ⟨("are_labels", none), "are_labels", "are_labels", defArgs s_are_labels, defBody s_are_labels, defScope s_are_labels, [], []⟩
def d_Parcel_init : He.DefD := ⟨("Parcel", some "__init__"), "__init__", "Parcel.__init__", defArgs s_Parcel_init, defBody s_Parcel_init, defScope s_Parcel_init, [.int 1, .int 0, .int 0, .non], []⟩
def d_Parcel_name : He.DefD := ⟨("Parcel", some "name"), "name", "Parcel.name", defArgs s_Parcel_name, defBody s_Parcel_name, defScope s_Parcel_name, [], []⟩
def d_Parcel_sides : He.DefD := ⟨("Parcel", some "sides"), "sides", "Parcel.sides", defArgs s_Parcel_sides, defBody s_Parcel_sides, defScope s_Parcel_sides, [], []⟩
def d_Parcel_str : He.DefD := ⟨("Parcel", some "__str__"), "__str__", "Parcel.__str__", defArgs s_Parcel_str, defBody s_Parcel_str, defScope s_Parcel_str, [], []⟩
def d_Heap_init : He.DefD := ⟨("Heap", some "__init__"), "__init__", "Heap.__init__", defArgs s_Heap_init, defBody s_Heap_init, defScope s_Heap_init, [], []⟩
def d_Heap_place_of : He.DefD := ⟨("Heap", some "place_of"), "place_of", "Heap.place_of", defArgs s_Heap_place_of, defBody s_Heap_place_of, defScope s_Heap_place_of, [], []⟩
def d_Heap_put : He.DefD := ⟨("Heap", some "put"), "put", "Heap.put", defArgs s_Heap_put, defBody s_Heap_put, defScope s_Heap_put, [.non], []⟩
def d_Heap_out : He.DefD := ⟨("Heap", some "out"), "out", "Heap.out", defArgs s_Heap_out, defBody s_Heap_out, defScope s_Heap_out, [], []⟩
def d_Heap_parcel : He.DefD := ⟨("Heap", some "parcel"), "parcel", "Heap.parcel", defArgs s_Heap_parcel, defBody s_Heap_parcel, defScope s_Heap_parcel, [], []⟩
def d_Heap_names : He.DefD := ⟨("Heap", some "names"), "names", "Heap.names", defArgs s_Heap_names, defBody s_Heap_names, defScope s_Heap_names, [], []⟩
def d_Heap_parcels : He.DefD := ⟨("Heap", some "parcels"), "parcels", "Heap.parcels", defArgs s_Heap_parcels, defBody s_Heap_parcels, defScope s_Heap_parcels, [], []⟩
def d_is_parcel_turned : He.DefD := ⟨("is_parcel_turned", none), "is_parcel_turned", "is_parcel_turned", defArgs s_is_parcel_turned, defBody s_is_parcel_turned, defScope s_is_parcel_turned, [], []⟩
def d_are_two_by : He.DefD := ⟨("are_two_by", none), "are_two_by", "are_two_by", defArgs s_are_two_by, defBody s_are_two_by, defScope s_are_two_by, [], []⟩
def d_has_form : He.DefD := ⟨("has_form", none), "has_form", "has_form", defArgs s_has_form, defBody s_has_form, defScope s_has_form, [], []⟩
def d_names_in : He.DefD := ⟨("names_in", none), "names_in", "names_in", defArgs s_names_in, defBody s_names_in, defScope s_names_in, [], []⟩
def d_beside : He.DefD := ⟨("beside", none), "beside", "beside", defArgs s_beside, defBody s_beside, defScope s_beside, [], []⟩
def d_three_of : He.DefD := ⟨("three_of", none), "three_of", "three_of", defArgs s_three_of, defBody s_three_of, defScope s_three_of, [], []⟩
def d_is_laying : He.DefD := ⟨("is_laying", none), "is_laying", "is_laying", defArgs s_is_laying, defBody s_is_laying, defScope s_is_laying, [], []⟩
def d_need_laying : He.DefD := ⟨("need_laying", none), "need_laying", "need_laying", defArgs s_need_laying, defBody s_need_laying, defScope s_need_laying, [], []⟩
def d_sides_of : He.DefD := ⟨("sides_of", none), "sides_of", "sides_of", defArgs s_sides_of, defBody s_sides_of, defScope s_sides_of, [], []⟩
def d_turned_three : He.DefD := ⟨("turned_three", none), "turned_three", "turned_three", defArgs s_turned_three, defBody s_turned_three, defScope s_turned_three, [], []⟩
def d_turned_by : He.DefD := ⟨("turned_by", none), "turned_by", "turned_by", defArgs s_turned_by, defBody s_turned_by, defScope s_turned_by, [], []⟩
def d_Laid_init : He.DefD := ⟨("Laid", some "__init__"), "__init__", "Laid.__init__", defArgs s_Laid_init, defBody s_Laid_init, defScope s_Laid_init, [], []⟩
def d_Laid_holds : He.DefD := ⟨("Laid", some "holds"), "holds", "Laid.holds", defArgs s_Laid_holds, defBody s_Laid_holds, defScope s_Laid_holds, [], []⟩
def d_volume_of : He.DefD := ⟨("volume_of", none), "volume_of", "volume_of", defArgs s_volume_of, defBody s_volume_of, defScope s_volume_of, [], []⟩
def d_need_names : He.DefD := ⟨("need_names", none), "need_names", "need_names", defArgs s_need_names, defBody s_need_names, defScope s_need_names, [], []⟩
def d_chosen : He.DefD := ⟨("chosen", none), "chosen", "chosen", defArgs s_chosen, defBody s_chosen, defScope s_chosen, [], []⟩
def d_choices_of : He.DefD := ⟨("choices_of", none), "choices_of", "choices_of", defArgs s_choices_of, defBody s_choices_of, defScope s_choices_of, [], []⟩
def d_partings_of : He.DefD := ⟨("partings_of", none), "partings_of", "partings_of", defArgs s_partings_of, defBody s_partings_of, defScope s_partings_of, [], []⟩
def d_all_ways : He.DefD := ⟨("all_ways", none), "all_ways", "all_ways", defArgs s_all_ways, defBody s_all_ways, defScope s_all_ways, [], []⟩
def d_is_held : He.DefD := ⟨("is_held", none), "is_held", "is_held", defArgs s_is_held, defBody s_is_held, defScope s_is_held, [], []⟩
def d_with_two : He.DefD := ⟨("with_two", none), "with_two", "with_two", defArgs s_with_two, defBody s_with_two, defScope s_with_two, [], []⟩
def d_laid_lists : He.DefD := ⟨("laid_lists", none), "laid_lists", "laid_lists", defArgs s_laid_lists, defBody s_laid_lists, defScope s_laid_lists, [], []⟩
def d_papers_of : He.DefD := ⟨("papers_of", none), "papers_of", "papers_of", defArgs s_papers_of, defBody s_papers_of, defScope s_papers_of, [], []⟩
def d_least_bundle : He.DefD := ⟨("least_bundle", none), "least_bundle", "least_bundle", defArgs s_least_bundle, defBody s_least_bundle, defScope s_least_bundle, [], []⟩
def d__law_cell : He.DefD := ⟨("_law_cell", none), "_law_cell", "_law_cell", defArgs s__law_cell, defBody s__law_cell, defScope s__law_cell, [], []⟩
def d__law_purse : He.DefD := ⟨("_law_purse", none), "_law_purse", "_law_purse", defArgs s__law_purse, defBody s__law_purse, defScope s__law_purse, [], []⟩
def d__law_take : He.DefD := ⟨("_law_take", none), "_law_take", "_law_take", defArgs s__law_take, defBody s__law_take, defScope s__law_take, [], []⟩
def d__law_names : He.DefD := ⟨("_law_names", none), "_law_names", "_law_names", defArgs s__law_names, defBody s__law_names, defScope s__law_names, [], []⟩
def d__law_orders : He.DefD := ⟨("_law_orders", none), "_law_orders", "_law_orders", defArgs s__law_orders, defBody s__law_orders, defScope s__law_orders, [], []⟩
def d__law_three : He.DefD := ⟨("_law_three", none), "_law_three", "_law_three", defArgs s__law_three, defBody s__law_three, defScope s__law_three, [], []⟩
def d__law_heap : He.DefD := ⟨("_law_heap", none), "_law_heap", "_law_heap", defArgs s__law_heap, defBody s__law_heap, defScope s__law_heap, [], []⟩
def d__law_laying : He.DefD := ⟨("_law_laying", none), "_law_laying", "_law_laying", defArgs s__law_laying, defBody s__law_laying, defScope s__law_laying, [], []⟩
def d__law_picked : He.DefD := ⟨("_law_picked", none), "_law_picked", "_law_picked", defArgs s__law_picked, defBody s__law_picked, defScope s__law_picked, [], []⟩
def d__law_book : He.DefD := ⟨("_law_book", none), "_law_book", "_law_book", defArgs s__law_book, defBody s__law_book, defScope s__law_book, [], []⟩
def d__law_span : He.DefD := ⟨("_law_span", none), "_law_span", "_law_span", defArgs s__law_span, defBody s__law_span, defScope s__law_span, [], []⟩
def d__law_named : He.DefD := ⟨("_law_named", none), "_law_named", "_law_named", defArgs s__law_named, defBody s__law_named, defScope s__law_named, [], []⟩
def d__law_is_whole : He.DefD := ⟨("_law_is_whole", none), "_law_is_whole", "_law_is_whole", defArgs s__law_is_whole, defBody s__law_is_whole, defScope s__law_is_whole, [], []⟩
def d__law_is_order : He.DefD := ⟨("_law_is_order", none), "_law_is_order", "_law_is_order", defArgs s__law_is_order, defBody s__law_is_order, defScope s__law_is_order, [], []⟩
def d__law_choices : He.DefD := ⟨("_law_choices", none), "_law_choices", "_law_choices", defArgs s__law_choices, defBody s__law_choices, defScope s__law_choices, [], []⟩
def d__law_all_choices : He.DefD := ⟨("_law_all_choices", none), "_law_all_choices", "_law_all_choices", defArgs s__law_all_choices, defBody s__law_all_choices, defScope s__law_all_choices, [], []⟩
def d__law_held : He.DefD := ⟨("_law_held", none), "_law_held", "_law_held", defArgs s__law_held, defBody s__law_held, defScope s__law_held, [], []⟩
def d__law_pairs_held : He.DefD := ⟨("_law_pairs_held", none), "_law_pairs_held", "_law_pairs_held", defArgs s__law_pairs_held, defBody s__law_pairs_held, defScope s__law_pairs_held, [], []⟩
def d__law_list_right : He.DefD := ⟨("_law_list_right", none), "_law_list_right", "_law_list_right", defArgs s__law_list_right, defBody s__law_list_right, defScope s__law_list_right, [], []⟩
def d__law_shown : He.DefD := ⟨("_law_shown", none), "_law_shown", "_law_shown", defArgs s__law_shown, defBody s__law_shown, defScope s__law_shown, [], []⟩
def d__law_volume : He.DefD := ⟨("_law_volume", none), "_law_volume", "_law_volume", defArgs s__law_volume, defBody s__law_volume, defScope s__law_volume, [], []⟩
def d__law_right : He.DefD := ⟨("_law_right", none), "_law_right", "_law_right", defArgs s__law_right, defBody s__law_right, defScope s__law_right, [], []⟩
def d__law_alike : He.DefD := ⟨("_law_alike", none), "_law_alike", "_law_alike", defArgs s__law_alike, defBody s__law_alike, defScope s__law_alike, [], []⟩
def d__law_replaced : He.DefD := ⟨("_law_replaced", none), "_law_replaced", "_law_replaced", defArgs s__law_replaced, defBody s__law_replaced, defScope s__law_replaced, [], []⟩
def d__law_stood : He.DefD := ⟨("_law_stood", none), "_law_stood", "_law_stood", defArgs s__law_stood, defBody s__law_stood, defScope s__law_stood, [], []⟩
def d__law_asked : He.DefD := ⟨("_law_asked", none), "_law_asked", "_law_asked", defArgs s__law_asked, defBody s__law_asked, defScope s__law_asked, [], []⟩
def d__law_first_right : He.DefD := ⟨("_law_first_right", none), "_law_first_right", "_law_first_right", defArgs s__law_first_right, defBody s__law_first_right, defScope s__law_first_right, [], []⟩
def d_law : He.DefD := ⟨("law", none), "law", "law", defArgs s_law, defBody s_law, defScope s_law, [], []⟩
def fn0 : List He.DefD := [d_is_whole, d_is_name, d_is_order, d_Sides_init, d_Sides_told, d_Sides_ranked, d_Sides_volume, d_Sides_str, d_Sides_turned, d_are_labels, d_Parcel_init, d_Parcel_name, d_Parcel_sides, d_Parcel_str, d_Heap_init, d_Heap_place_of, d_Heap_put, d_Heap_out, d_Heap_parcel, d_Heap_names]
def fn1 : List He.DefD := [d_Heap_parcels, d_is_parcel_turned, d_are_two_by, d_has_form, d_names_in, d_beside, d_three_of, d_is_laying, d_need_laying, d_sides_of, d_turned_three, d_turned_by, d_Laid_init, d_Laid_holds, d_volume_of, d_need_names, d_chosen, d_choices_of, d_partings_of, d_all_ways]
def fn2 : List He.DefD := [d_is_held, d_with_two, d_laid_lists, d_papers_of, d_least_bundle, d__law_cell, d__law_purse, d__law_take, d__law_names, d__law_orders, d__law_three, d__law_heap, d__law_laying, d__law_picked, d__law_book, d__law_span, d__law_named, d__law_is_whole, d__law_is_order, d__law_choices]
def fn3 : List He.DefD := [d__law_all_choices, d__law_held, d__law_pairs_held, d__law_list_right, d__law_shown, d__law_volume, d__law_right, d__law_alike, d__law_replaced, d__law_stood, d__law_asked, d__law_first_right, d_law]
def fa0 : List He.Fa := [.glo "is_whole", .glo "is_name", .glo "is_order", .glo "Sides", .glo "are_labels", .glo "Parcel", .glo "Heap", .glo "is_parcel_turned", .glo "are_two_by", .glo "has_form", .glo "names_in", .glo "beside", .glo "three_of", .glo "is_laying", .glo "need_laying", .glo "sides_of", .glo "turned_three", .glo "turned_by", .glo "Laid", .glo "volume_of"]
def fa1 : List He.Fa := [.glo "need_names", .glo "chosen", .glo "choices_of", .glo "partings_of", .glo "all_ways", .glo "is_held", .glo "with_two", .glo "laid_lists", .glo "papers_of", .glo "least_bundle", .glo "_law_cell", .glo "_law_purse", .glo "_law_take", .glo "_law_names", .glo "_law_orders", .glo "_law_three", .glo "_law_heap", .glo "_law_laying", .glo "_law_picked", .glo "_law_book"]
def fa2 : List He.Fa := [.glo "_law_span", .glo "_law_named", .glo "_law_is_whole", .glo "_law_is_order", .glo "_law_choices", .glo "_law_all_choices", .glo "_law_held", .glo "_law_pairs_held", .glo "_law_list_right", .glo "_law_shown", .glo "_law_volume", .glo "_law_right", .glo "_law_alike", .glo "_law_replaced", .glo "_law_stood", .glo "_law_asked", .glo "_law_first_right", .glo "law", .free "all", .free "bool"]
def fa3 : List He.Fa := [.free "dict", .free "enumerate", .free "int", .free "isinstance", .free "len", .free "list", .free "max", .free "min", .free "range", .free "repr", .free "set", .free "sorted", .free "str", .free "sum", .free "tuple", .free "zip", .int "MOST_SIDE" 100000, .int "MOST_WALL" 1000, .int "MOST_WEIGHT" 100000, .int "MOST_PARCELS" 12]
def fa4 : List He.Fa := [.int "MOST_LAID" 6, .int "MOST_NAMES" 4, .str "LETTERS" "abcdefghijklmnopqrstuvwxyz", .glo "ORDERS", .glo "LABELS", .glo "FORMS", .cls "Sides", .mkr "Sides", .keep "Sides", .noat "Sides" "three", .meth "Sides" "told", .meth "Sides" "ranked", .meth "Sides" "volume", .meth "Sides" "__str__", .meth "Sides" "turned", .cls "Parcel", .mkr "Parcel", .keep "Parcel", .noat "Parcel" "called", .noat "Parcel" "outside"]
def fa5 : List He.Fa := [.noat "Parcel" "thick", .noat "Parcel" "heavy", .noat "Parcel" "strong", .noat "Parcel" "marks", .meth "Parcel" "name", .meth "Parcel" "sides", .meth "Parcel" "__str__", .cls "Heap", .mkr "Heap", .keep "Heap", .noat "Heap" "held", .meth "Heap" "place_of", .meth "Heap" "put", .meth "Heap" "out", .meth "Heap" "parcel", .meth "Heap" "names", .meth "Heap" "parcels", .cls "Laid", .mkr "Laid", .keep "Laid"]
def fa6 : List He.Fa := [.noat "Laid" "paper", .noat "Laid" "three", .noat "Laid" "falling", .meth "Laid" "holds"]
/-- the i-th table -/
def fnT : List (List He.DefD) := [fn0, fn1, fn2, fn3]
def faT : List (List He.Fa) := [fa0, fa1, fa2, fa3, fa4, fa5, fa6]
def fn : List He.DefD := fnT.flatten
def fa : List He.Fa := faT.flatten
theorem fn_in (i j : Nat) {l : List He.DefD} {d : He.DefD} (h1 : fnT[i]? = some l := by rfl) (h2 : l[j]? = some d := by rfl) : d ∈ fn := List.mem_flatten.mpr ⟨l, List.mem_of_getElem? h1, List.mem_of_getElem? h2⟩
theorem fa_in (i j : Nat) {l : List He.Fa} {d : He.Fa} (h1 : faT[i]? = some l := by rfl) (h2 : l[j]? = some d := by rfl) : d ∈ fa := List.mem_flatten.mpr ⟨l, List.mem_of_getElem? h1, List.mem_of_getElem? h2⟩
/-! ### more facts than the Hook's words hold -/
/-- the tuple of data at a -/
def tupV (K : PySem.W.Frag) (a : Addr) (vs : List V) : Bool := match K.lookup a with
  | some ⟨.type c, none, .seq its _, _⟩ => decide (c = "tuple") && (decide (its.size ≤ sizeLine) && He.relAll vs its.toList)
  | _ => false
theorem tupV_all {K : PySem.W.Frag} {a : Addr} {vs : List V} (h : tupV K a vs = true) : ∃ (o : Obj) (its : Array Value) (n : Nat), K.lookup a = some o ∧ o.cls = .type "tuple" ∧ o.dict = none ∧ o.data = .seq its n ∧ its.size ≤ sizeLine ∧ Vals vs its.toList := by
  unfold tupV at h
  cases q : K.lookup a with
  | none =>
    rw [q] at h
    cases h
  | some o =>
    obtain ⟨oc, od, dt, osl⟩ := o
    rw [q] at h
    cases oc with
    | type c =>
      cases od with
      | none =>
        cases dt with
        | seq its n =>
          obtain ⟨h1, h2⟩ := He.ba (show (decide (c = "tuple") && (decide (its.size ≤ sizeLine) && He.relAll vs its.toList)) = true from h)
          obtain ⟨h3, h4⟩ := He.ba h2
          exact ⟨_, its, n, rfl, congrArg Value.type (of_decide_eq_true h1), rfl, rfl, of_decide_eq_true h3, He.relAll_ok h4⟩
        | _ => cases h
      | some d => cases dt <;> cases h
    | _ => cases od <;> cases dt <;> cases h
theorem tupV_ok {K : PySem.W.Frag} {a : Addr} {vs : List V} (h : tupV K a vs = true) (H : Hp) : SqT K H a vs := by
  obtain ⟨o, its, n, h1, h2, _, h4, h5, h6⟩ := tupV_all h
  exact .inr ⟨o, its, n, h1, h2, h4, h5, h6⟩
/-- the i-th item of the tuple at a, if it is an object -/
def itAt (K : PySem.W.Frag) (a : Addr) (i : Nat) : Addr := match K.lookup a with
  | some ⟨_, _, .seq its _, _⟩ => (match its.toList[i]? with
    | some (.ref b) => b
    | _ => 0)
  | _ => 0
def ordAd (K : PySem.W.Frag) (i : Nat) : Addr := itAt K (He.ga K "ORDERS") i
def insB (K : PySem.W.Frag) (C : Addr) : Bool := He.eqO (PySem.W.findIn K (.ref C) "__class__") (some (some (.builtin "object.__class__"))) && (He.eqO (PySem.W.specialIn K (.builtin "object.__class__") "__get__") (some (some (.builtin "getset_descriptor.__get__"))) &&
  (decide (PySem.W.takesIn K (.builtin "object.__class__") = some true) && (decide (PySem.W.mroIn K C (.type "object") = some true) && decide (PySem.W.kitOne K (.ref C) (.ref C) = some true))))
theorem insB_ok {K : PySem.W.Frag} {C : Addr} (c : Cls K C) (h : insB K C = true) : C8.InsC K C := by
  obtain ⟨h1, h⟩ := He.ba h
  obtain ⟨h2, h⟩ := He.ba h
  obtain ⟨h3, h⟩ := He.ba h
  obtain ⟨h4, h5⟩ := He.ba h
  exact ⟨c, He.eqO_ok h1, He.eqO_ok h2, of_decide_eq_true h3, of_decide_eq_true h4, of_decide_eq_true h5⟩
def strB (K : PySem.W.Frag) (C : Addr) : Bool := He.eqO (PySem.W.specialIn K (.ref C) "__str__") (some (some (.ref (He.ma K C "__str__"))))
def more (K : PySem.W.Frag) : Bool := tupV K (He.ga K "ORDERS") ((List.range 6).map fun i => .ref (ordAd K i)) &&
  (tupV K (ordAd K 0) [.int 0, .int 1, .int 2] && (tupV K (ordAd K 1) [.int 0, .int 2, .int 1] && (tupV K (ordAd K 2) [.int 1, .int 0, .int 2] && (tupV K (ordAd K 3) [.int 1, .int 2, .int 0] && (tupV K (ordAd K 4) [.int 2, .int 0, .int 1] && (tupV K (ordAd K 5) [.int 2, .int 1, .int 0] &&
  (tupV K (He.ga K "LABELS") [.str "alone", .str "top", .str "upright"] && (He.valsB K (He.ga K "FORMS") [("one", .glo "is_parcel_turned"), ("by", .glo "are_two_by")] &&
  (insB K (He.ga K "Sides") && insB K (He.ga K "Parcel"))))))))))
def tabs : List He.Tab := [(fun K => He.ga K "FORMS", ["one", "by"])]
/-! ### the Hook: what the facts look at, and no more -/
/-- where an object leads: a dict's values, a sequence's items, a def's code and defaults, a class's names -/
def leads (g : Addr → Option Obj) (a : Addr) : List Addr := match g a with
  | some o => (match o.data with
    | .dict es _ => es.toList.flatMap fun e => He.refV e.val
    | .seq its _ => its.toList.flatMap He.refV
    | .func fd => He.refV fd.code ++ He.refV fd.defaults
    | .cls cd => [cd.ns]
    | _ => [])
  | none => []
def reach (g : Addr → Option Obj) : Nat → List Addr → List Addr
  | 0, l => l
  | n + 1, l => l ++ reach g n (l.flatMap (leads g))
abbrev AlP : Type := He.AlT × Bool
def partOf (g : Addr → Option Obj) : PySem.W.Frag := He.frG g (reach g 4 [mainGlobals])
def obsP (g : Addr → Option Obj) : AlP := (He.obsT fa fn tabs (partOf g), more (partOf g))
def valP (w : World) : AlP := (He.valT fn tabs w, true)
def hookP : PySem.W.Hook where
  α := AlP
  obs := fun s => obsP s.heap.get?
  val := valP
  says := fun w h => ∃ K : PySem.W.Frag, K.In h ∧ He.SaysT fa fn tabs w K ∧ more K = true
  of := fun _ _ e => ⟨_, He.frG_in, congrArg (fun z : AlP => z.1) e, congrArg (fun z : AlP => z.2) e⟩
  keeps := fun _ _ _ ⟨K, hK, c⟩ k => ⟨K, PySem.W.Frag.In.keeps hK k, c⟩
theorem obsP_eq {g : Addr → Option Obj} {s : Shared} (h : ∀ a, g a = s.heap.get? a) : obsP g = hookP.obs s := by
  have e : g = s.heap.get? := funext h
  rw [e] <;> rfl
/-- all that is known of the top's end -/
structure Env (w : World) (K : PySem.W.Frag) (mg : Str → Option Value) : Prop where
  says : ∃ h : Heap, K.In h ∧ h.Ns mainGlobals mg ∧ He.SaysT fa fn tabs w K ∧ Bx.more K = true
section
variable {w : World} {K : PySem.W.Frag} {mg : Str → Option Value}
theorem Env.fact (T : Env w K mg) {f : He.Fa} (h : f ∈ fa) : f.ok K = true := by
  obtain ⟨_, _, _, c, _⟩ := T.says
  exact c.d.facts h
theorem Env.defn (T : Env w K mg) {d : He.DefD} (h : d ∈ fn) : ∃ fd, FunD K d.name d.qual d.params d.body d.scope (d.dvs K) (d.kws K) (He.fAd K d.at_) fd := by
  obtain ⟨_, _, _, c, _⟩ := T.says
  exact c.d.defs h
theorem Env.glo (T : Env w K mg) {x : Str} (h : He.Fa.glo x ∈ fa) : mg x = some (.ref (He.ga K x)) := by
  obtain ⟨_, X, G, _⟩ := T.says
  exact He.glo_ok X G (T.fact h)
theorem Env.free (T : Env w K mg) {x : Str} (h : He.Fa.free x ∈ fa) : mg x = none := by
  obtain ⟨_, X, G, _⟩ := T.says
  exact He.free_ok X G (T.fact h)
theorem Env.int (T : Env w K mg) {x : Str} {i : Int} (h : He.Fa.int x i ∈ fa) : ∃ t, mg x = some (.int i t) := by
  obtain ⟨_, X, G, _⟩ := T.says
  exact He.int_ok X G (T.fact h)
theorem Env.str (T : Env w K mg) {x z : Str} (h : He.Fa.str x z ∈ fa) : ∃ t, mg x = some (.str z t) := by
  obtain ⟨_, X, G, _⟩ := T.says
  exact He.str_ok X G (T.fact h)
theorem Env.more (T : Env w K mg) : Bx.more K = true := by
  obtain ⟨_, X, G, _, c⟩ := T.says
  exact c
theorem Env.forms (T : Env w K mg) : ∃ es n, KDict K w (He.ga K "FORMS") es n := by
  obtain ⟨_, X, G, c, _⟩ := T.says
  exact c.tab 0 (t := (fun K => He.ga K "FORMS", ["one", "by"]))
theorem Env.d_is_whole (T : Env w K mg) : ∃ fd, FunD K "is_whole" "is_whole" (defArgs s_is_whole) (defBody s_is_whole) (defScope s_is_whole) [] [] (He.fAd K ("is_whole", none)) fd := T.defn (d := Bx.d_is_whole) (fn_in 0 0)
theorem Env.d_is_name (T : Env w K mg) : ∃ fd, FunD K "is_name" "is_name" (defArgs s_is_name) (defBody s_is_name) (defScope s_is_name) [] [] (He.fAd K ("is_name", none)) fd := T.defn (d := Bx.d_is_name) (fn_in 0 1)
theorem Env.d_is_order (T : Env w K mg) : ∃ fd, FunD K "is_order" "is_order" (defArgs s_is_order) (defBody s_is_order) (defScope s_is_order) [] [] (He.fAd K ("is_order", none)) fd := T.defn (d := Bx.d_is_order) (fn_in 0 2)
theorem Env.d_Sides_init (T : Env w K mg) : ∃ fd, FunD K "__init__" "Sides.__init__" (defArgs s_Sides_init) (defBody s_Sides_init) (defScope s_Sides_init) [] [] (He.fAd K ("Sides", some "__init__")) fd := T.defn (d := Bx.d_Sides_init) (fn_in 0 3)
theorem Env.d_Sides_told (T : Env w K mg) : ∃ fd, FunD K "told" "Sides.told" (defArgs s_Sides_told) (defBody s_Sides_told) (defScope s_Sides_told) [] [] (He.fAd K ("Sides", some "told")) fd := T.defn (d := Bx.d_Sides_told) (fn_in 0 4)
theorem Env.d_Sides_ranked (T : Env w K mg) : ∃ fd, FunD K "ranked" "Sides.ranked" (defArgs s_Sides_ranked) (defBody s_Sides_ranked) (defScope s_Sides_ranked) [] [] (He.fAd K ("Sides", some "ranked")) fd := T.defn (d := Bx.d_Sides_ranked) (fn_in 0 5)
theorem Env.d_Sides_volume (T : Env w K mg) : ∃ fd, FunD K "volume" "Sides.volume" (defArgs s_Sides_volume) (defBody s_Sides_volume) (defScope s_Sides_volume) [] [] (He.fAd K ("Sides", some "volume")) fd := T.defn (d := Bx.d_Sides_volume) (fn_in 0 6)
theorem Env.d_Sides_str (T : Env w K mg) : ∃ fd, FunD K "__str__" "Sides.__str__" (defArgs s_Sides_str) (defBody s_Sides_str) (defScope s_Sides_str) [] [] (He.fAd K ("Sides", some "__str__")) fd := T.defn (d := Bx.d_Sides_str) (fn_in 0 7)
theorem Env.d_Sides_turned (T : Env w K mg) : ∃ fd, FunD K "turned" "Sides.turned" (defArgs s_Sides_turned) (defBody s_Sides_turned) (defScope s_Sides_turned) [] [] (He.fAd K ("Sides", some "turned")) fd := T.defn (d := Bx.d_Sides_turned) (fn_in 0 8)
theorem Env.d_are_labels (T : Env w K mg) : ∃ fd, FunD K "are_labels" "are_labels" (defArgs s_are_labels) (defBody s_are_labels) (defScope s_are_labels) [] [] (He.fAd K ("are_labels", none)) fd := T.defn (d := Bx.d_are_labels) (fn_in 0 9)
theorem Env.d_Parcel_init (T : Env w K mg) : ∃ fd, FunD K "__init__" "Parcel.__init__" (defArgs s_Parcel_init) (defBody s_Parcel_init) (defScope s_Parcel_init) [.int 1, .int 0, .int 0, .non] [] (He.fAd K ("Parcel", some "__init__")) fd := T.defn (d := Bx.d_Parcel_init) (fn_in 0 10)
theorem Env.d_Parcel_name (T : Env w K mg) : ∃ fd, FunD K "name" "Parcel.name" (defArgs s_Parcel_name) (defBody s_Parcel_name) (defScope s_Parcel_name) [] [] (He.fAd K ("Parcel", some "name")) fd := T.defn (d := Bx.d_Parcel_name) (fn_in 0 11)
theorem Env.d_Parcel_sides (T : Env w K mg) : ∃ fd, FunD K "sides" "Parcel.sides" (defArgs s_Parcel_sides) (defBody s_Parcel_sides) (defScope s_Parcel_sides) [] [] (He.fAd K ("Parcel", some "sides")) fd := T.defn (d := Bx.d_Parcel_sides) (fn_in 0 12)
theorem Env.d_Parcel_str (T : Env w K mg) : ∃ fd, FunD K "__str__" "Parcel.__str__" (defArgs s_Parcel_str) (defBody s_Parcel_str) (defScope s_Parcel_str) [] [] (He.fAd K ("Parcel", some "__str__")) fd := T.defn (d := Bx.d_Parcel_str) (fn_in 0 13)
theorem Env.d_Heap_init (T : Env w K mg) : ∃ fd, FunD K "__init__" "Heap.__init__" (defArgs s_Heap_init) (defBody s_Heap_init) (defScope s_Heap_init) [] [] (He.fAd K ("Heap", some "__init__")) fd := T.defn (d := Bx.d_Heap_init) (fn_in 0 14)
theorem Env.d_Heap_place_of (T : Env w K mg) : ∃ fd, FunD K "place_of" "Heap.place_of" (defArgs s_Heap_place_of) (defBody s_Heap_place_of) (defScope s_Heap_place_of) [] [] (He.fAd K ("Heap", some "place_of")) fd := T.defn (d := Bx.d_Heap_place_of) (fn_in 0 15)
theorem Env.d_Heap_put (T : Env w K mg) : ∃ fd, FunD K "put" "Heap.put" (defArgs s_Heap_put) (defBody s_Heap_put) (defScope s_Heap_put) [.non] [] (He.fAd K ("Heap", some "put")) fd := T.defn (d := Bx.d_Heap_put) (fn_in 0 16)
theorem Env.d_Heap_out (T : Env w K mg) : ∃ fd, FunD K "out" "Heap.out" (defArgs s_Heap_out) (defBody s_Heap_out) (defScope s_Heap_out) [] [] (He.fAd K ("Heap", some "out")) fd := T.defn (d := Bx.d_Heap_out) (fn_in 0 17)
theorem Env.d_Heap_parcel (T : Env w K mg) : ∃ fd, FunD K "parcel" "Heap.parcel" (defArgs s_Heap_parcel) (defBody s_Heap_parcel) (defScope s_Heap_parcel) [] [] (He.fAd K ("Heap", some "parcel")) fd := T.defn (d := Bx.d_Heap_parcel) (fn_in 0 18)
theorem Env.d_Heap_names (T : Env w K mg) : ∃ fd, FunD K "names" "Heap.names" (defArgs s_Heap_names) (defBody s_Heap_names) (defScope s_Heap_names) [] [] (He.fAd K ("Heap", some "names")) fd := T.defn (d := Bx.d_Heap_names) (fn_in 0 19)
theorem Env.d_Heap_parcels (T : Env w K mg) : ∃ fd, FunD K "parcels" "Heap.parcels" (defArgs s_Heap_parcels) (defBody s_Heap_parcels) (defScope s_Heap_parcels) [] [] (He.fAd K ("Heap", some "parcels")) fd := T.defn (d := Bx.d_Heap_parcels) (fn_in 1 0)
theorem Env.d_is_parcel_turned (T : Env w K mg) : ∃ fd, FunD K "is_parcel_turned" "is_parcel_turned" (defArgs s_is_parcel_turned) (defBody s_is_parcel_turned) (defScope s_is_parcel_turned) [] [] (He.fAd K ("is_parcel_turned", none)) fd := T.defn (d := Bx.d_is_parcel_turned) (fn_in 1 1)
theorem Env.d_are_two_by (T : Env w K mg) : ∃ fd, FunD K "are_two_by" "are_two_by" (defArgs s_are_two_by) (defBody s_are_two_by) (defScope s_are_two_by) [] [] (He.fAd K ("are_two_by", none)) fd := T.defn (d := Bx.d_are_two_by) (fn_in 1 2)
theorem Env.d_has_form (T : Env w K mg) : ∃ fd, FunD K "has_form" "has_form" (defArgs s_has_form) (defBody s_has_form) (defScope s_has_form) [] [] (He.fAd K ("has_form", none)) fd := T.defn (d := Bx.d_has_form) (fn_in 1 3)
theorem Env.d_names_in (T : Env w K mg) : ∃ fd, FunD K "names_in" "names_in" (defArgs s_names_in) (defBody s_names_in) (defScope s_names_in) [] [] (He.fAd K ("names_in", none)) fd := T.defn (d := Bx.d_names_in) (fn_in 1 4)
theorem Env.d_beside (T : Env w K mg) : ∃ fd, FunD K "beside" "beside" (defArgs s_beside) (defBody s_beside) (defScope s_beside) [] [] (He.fAd K ("beside", none)) fd := T.defn (d := Bx.d_beside) (fn_in 1 5)
theorem Env.d_three_of (T : Env w K mg) : ∃ fd, FunD K "three_of" "three_of" (defArgs s_three_of) (defBody s_three_of) (defScope s_three_of) [] [] (He.fAd K ("three_of", none)) fd := T.defn (d := Bx.d_three_of) (fn_in 1 6)
theorem Env.d_is_laying (T : Env w K mg) : ∃ fd, FunD K "is_laying" "is_laying" (defArgs s_is_laying) (defBody s_is_laying) (defScope s_is_laying) [] [] (He.fAd K ("is_laying", none)) fd := T.defn (d := Bx.d_is_laying) (fn_in 1 7)
theorem Env.d_need_laying (T : Env w K mg) : ∃ fd, FunD K "need_laying" "need_laying" (defArgs s_need_laying) (defBody s_need_laying) (defScope s_need_laying) [] [] (He.fAd K ("need_laying", none)) fd := T.defn (d := Bx.d_need_laying) (fn_in 1 8)
theorem Env.d_sides_of (T : Env w K mg) : ∃ fd, FunD K "sides_of" "sides_of" (defArgs s_sides_of) (defBody s_sides_of) (defScope s_sides_of) [] [] (He.fAd K ("sides_of", none)) fd := T.defn (d := Bx.d_sides_of) (fn_in 1 9)
theorem Env.d_turned_three (T : Env w K mg) : ∃ fd, FunD K "turned_three" "turned_three" (defArgs s_turned_three) (defBody s_turned_three) (defScope s_turned_three) [] [] (He.fAd K ("turned_three", none)) fd := T.defn (d := Bx.d_turned_three) (fn_in 1 10)
theorem Env.d_turned_by (T : Env w K mg) : ∃ fd, FunD K "turned_by" "turned_by" (defArgs s_turned_by) (defBody s_turned_by) (defScope s_turned_by) [] [] (He.fAd K ("turned_by", none)) fd := T.defn (d := Bx.d_turned_by) (fn_in 1 11)
theorem Env.d_Laid_init (T : Env w K mg) : ∃ fd, FunD K "__init__" "Laid.__init__" (defArgs s_Laid_init) (defBody s_Laid_init) (defScope s_Laid_init) [] [] (He.fAd K ("Laid", some "__init__")) fd := T.defn (d := Bx.d_Laid_init) (fn_in 1 12)
theorem Env.d_Laid_holds (T : Env w K mg) : ∃ fd, FunD K "holds" "Laid.holds" (defArgs s_Laid_holds) (defBody s_Laid_holds) (defScope s_Laid_holds) [] [] (He.fAd K ("Laid", some "holds")) fd := T.defn (d := Bx.d_Laid_holds) (fn_in 1 13)
theorem Env.d_volume_of (T : Env w K mg) : ∃ fd, FunD K "volume_of" "volume_of" (defArgs s_volume_of) (defBody s_volume_of) (defScope s_volume_of) [] [] (He.fAd K ("volume_of", none)) fd := T.defn (d := Bx.d_volume_of) (fn_in 1 14)
theorem Env.d_need_names (T : Env w K mg) : ∃ fd, FunD K "need_names" "need_names" (defArgs s_need_names) (defBody s_need_names) (defScope s_need_names) [] [] (He.fAd K ("need_names", none)) fd := T.defn (d := Bx.d_need_names) (fn_in 1 15)
theorem Env.d_chosen (T : Env w K mg) : ∃ fd, FunD K "chosen" "chosen" (defArgs s_chosen) (defBody s_chosen) (defScope s_chosen) [] [] (He.fAd K ("chosen", none)) fd := T.defn (d := Bx.d_chosen) (fn_in 1 16)
theorem Env.d_choices_of (T : Env w K mg) : ∃ fd, FunD K "choices_of" "choices_of" (defArgs s_choices_of) (defBody s_choices_of) (defScope s_choices_of) [] [] (He.fAd K ("choices_of", none)) fd := T.defn (d := Bx.d_choices_of) (fn_in 1 17)
theorem Env.d_partings_of (T : Env w K mg) : ∃ fd, FunD K "partings_of" "partings_of" (defArgs s_partings_of) (defBody s_partings_of) (defScope s_partings_of) [] [] (He.fAd K ("partings_of", none)) fd := T.defn (d := Bx.d_partings_of) (fn_in 1 18)
theorem Env.d_all_ways (T : Env w K mg) : ∃ fd, FunD K "all_ways" "all_ways" (defArgs s_all_ways) (defBody s_all_ways) (defScope s_all_ways) [] [] (He.fAd K ("all_ways", none)) fd := T.defn (d := Bx.d_all_ways) (fn_in 1 19)
theorem Env.d_is_held (T : Env w K mg) : ∃ fd, FunD K "is_held" "is_held" (defArgs s_is_held) (defBody s_is_held) (defScope s_is_held) [] [] (He.fAd K ("is_held", none)) fd := T.defn (d := Bx.d_is_held) (fn_in 2 0)
theorem Env.d_with_two (T : Env w K mg) : ∃ fd, FunD K "with_two" "with_two" (defArgs s_with_two) (defBody s_with_two) (defScope s_with_two) [] [] (He.fAd K ("with_two", none)) fd := T.defn (d := Bx.d_with_two) (fn_in 2 1)
theorem Env.d_laid_lists (T : Env w K mg) : ∃ fd, FunD K "laid_lists" "laid_lists" (defArgs s_laid_lists) (defBody s_laid_lists) (defScope s_laid_lists) [] [] (He.fAd K ("laid_lists", none)) fd := T.defn (d := Bx.d_laid_lists) (fn_in 2 2)
theorem Env.d_papers_of (T : Env w K mg) : ∃ fd, FunD K "papers_of" "papers_of" (defArgs s_papers_of) (defBody s_papers_of) (defScope s_papers_of) [] [] (He.fAd K ("papers_of", none)) fd := T.defn (d := Bx.d_papers_of) (fn_in 2 3)
theorem Env.d_least_bundle (T : Env w K mg) : ∃ fd, FunD K "least_bundle" "least_bundle" (defArgs s_least_bundle) (defBody s_least_bundle) (defScope s_least_bundle) [] [] (He.fAd K ("least_bundle", none)) fd := T.defn (d := Bx.d_least_bundle) (fn_in 2 4)
theorem Env.d__law_cell (T : Env w K mg) : ∃ fd, FunD K "_law_cell" "_law_cell" (defArgs s__law_cell) (defBody s__law_cell) (defScope s__law_cell) [] [] (He.fAd K ("_law_cell", none)) fd := T.defn (d := Bx.d__law_cell) (fn_in 2 5)
theorem Env.d__law_purse (T : Env w K mg) : ∃ fd, FunD K "_law_purse" "_law_purse" (defArgs s__law_purse) (defBody s__law_purse) (defScope s__law_purse) [] [] (He.fAd K ("_law_purse", none)) fd := T.defn (d := Bx.d__law_purse) (fn_in 2 6)
theorem Env.d__law_take (T : Env w K mg) : ∃ fd, FunD K "_law_take" "_law_take" (defArgs s__law_take) (defBody s__law_take) (defScope s__law_take) [] [] (He.fAd K ("_law_take", none)) fd := T.defn (d := Bx.d__law_take) (fn_in 2 7)
theorem Env.d__law_names (T : Env w K mg) : ∃ fd, FunD K "_law_names" "_law_names" (defArgs s__law_names) (defBody s__law_names) (defScope s__law_names) [] [] (He.fAd K ("_law_names", none)) fd := T.defn (d := Bx.d__law_names) (fn_in 2 8)
theorem Env.d__law_orders (T : Env w K mg) : ∃ fd, FunD K "_law_orders" "_law_orders" (defArgs s__law_orders) (defBody s__law_orders) (defScope s__law_orders) [] [] (He.fAd K ("_law_orders", none)) fd := T.defn (d := Bx.d__law_orders) (fn_in 2 9)
theorem Env.d__law_three (T : Env w K mg) : ∃ fd, FunD K "_law_three" "_law_three" (defArgs s__law_three) (defBody s__law_three) (defScope s__law_three) [] [] (He.fAd K ("_law_three", none)) fd := T.defn (d := Bx.d__law_three) (fn_in 2 10)
theorem Env.d__law_heap (T : Env w K mg) : ∃ fd, FunD K "_law_heap" "_law_heap" (defArgs s__law_heap) (defBody s__law_heap) (defScope s__law_heap) [] [] (He.fAd K ("_law_heap", none)) fd := T.defn (d := Bx.d__law_heap) (fn_in 2 11)
theorem Env.d__law_laying (T : Env w K mg) : ∃ fd, FunD K "_law_laying" "_law_laying" (defArgs s__law_laying) (defBody s__law_laying) (defScope s__law_laying) [] [] (He.fAd K ("_law_laying", none)) fd := T.defn (d := Bx.d__law_laying) (fn_in 2 12)
theorem Env.d__law_picked (T : Env w K mg) : ∃ fd, FunD K "_law_picked" "_law_picked" (defArgs s__law_picked) (defBody s__law_picked) (defScope s__law_picked) [] [] (He.fAd K ("_law_picked", none)) fd := T.defn (d := Bx.d__law_picked) (fn_in 2 13)
theorem Env.d__law_book (T : Env w K mg) : ∃ fd, FunD K "_law_book" "_law_book" (defArgs s__law_book) (defBody s__law_book) (defScope s__law_book) [] [] (He.fAd K ("_law_book", none)) fd := T.defn (d := Bx.d__law_book) (fn_in 2 14)
theorem Env.d__law_span (T : Env w K mg) : ∃ fd, FunD K "_law_span" "_law_span" (defArgs s__law_span) (defBody s__law_span) (defScope s__law_span) [] [] (He.fAd K ("_law_span", none)) fd := T.defn (d := Bx.d__law_span) (fn_in 2 15)
theorem Env.d__law_named (T : Env w K mg) : ∃ fd, FunD K "_law_named" "_law_named" (defArgs s__law_named) (defBody s__law_named) (defScope s__law_named) [] [] (He.fAd K ("_law_named", none)) fd := T.defn (d := Bx.d__law_named) (fn_in 2 16)
theorem Env.d__law_is_whole (T : Env w K mg) : ∃ fd, FunD K "_law_is_whole" "_law_is_whole" (defArgs s__law_is_whole) (defBody s__law_is_whole) (defScope s__law_is_whole) [] [] (He.fAd K ("_law_is_whole", none)) fd := T.defn (d := Bx.d__law_is_whole) (fn_in 2 17)
theorem Env.d__law_is_order (T : Env w K mg) : ∃ fd, FunD K "_law_is_order" "_law_is_order" (defArgs s__law_is_order) (defBody s__law_is_order) (defScope s__law_is_order) [] [] (He.fAd K ("_law_is_order", none)) fd := T.defn (d := Bx.d__law_is_order) (fn_in 2 18)
theorem Env.d__law_choices (T : Env w K mg) : ∃ fd, FunD K "_law_choices" "_law_choices" (defArgs s__law_choices) (defBody s__law_choices) (defScope s__law_choices) [] [] (He.fAd K ("_law_choices", none)) fd := T.defn (d := Bx.d__law_choices) (fn_in 2 19)
theorem Env.d__law_all_choices (T : Env w K mg) : ∃ fd, FunD K "_law_all_choices" "_law_all_choices" (defArgs s__law_all_choices) (defBody s__law_all_choices) (defScope s__law_all_choices) [] [] (He.fAd K ("_law_all_choices", none)) fd := T.defn (d := Bx.d__law_all_choices) (fn_in 3 0)
theorem Env.d__law_held (T : Env w K mg) : ∃ fd, FunD K "_law_held" "_law_held" (defArgs s__law_held) (defBody s__law_held) (defScope s__law_held) [] [] (He.fAd K ("_law_held", none)) fd := T.defn (d := Bx.d__law_held) (fn_in 3 1)
theorem Env.d__law_pairs_held (T : Env w K mg) : ∃ fd, FunD K "_law_pairs_held" "_law_pairs_held" (defArgs s__law_pairs_held) (defBody s__law_pairs_held) (defScope s__law_pairs_held) [] [] (He.fAd K ("_law_pairs_held", none)) fd := T.defn (d := Bx.d__law_pairs_held) (fn_in 3 2)
theorem Env.d__law_list_right (T : Env w K mg) : ∃ fd, FunD K "_law_list_right" "_law_list_right" (defArgs s__law_list_right) (defBody s__law_list_right) (defScope s__law_list_right) [] [] (He.fAd K ("_law_list_right", none)) fd := T.defn (d := Bx.d__law_list_right) (fn_in 3 3)
theorem Env.d__law_shown (T : Env w K mg) : ∃ fd, FunD K "_law_shown" "_law_shown" (defArgs s__law_shown) (defBody s__law_shown) (defScope s__law_shown) [] [] (He.fAd K ("_law_shown", none)) fd := T.defn (d := Bx.d__law_shown) (fn_in 3 4)
theorem Env.d__law_volume (T : Env w K mg) : ∃ fd, FunD K "_law_volume" "_law_volume" (defArgs s__law_volume) (defBody s__law_volume) (defScope s__law_volume) [] [] (He.fAd K ("_law_volume", none)) fd := T.defn (d := Bx.d__law_volume) (fn_in 3 5)
theorem Env.d__law_right (T : Env w K mg) : ∃ fd, FunD K "_law_right" "_law_right" (defArgs s__law_right) (defBody s__law_right) (defScope s__law_right) [] [] (He.fAd K ("_law_right", none)) fd := T.defn (d := Bx.d__law_right) (fn_in 3 6)
theorem Env.d__law_alike (T : Env w K mg) : ∃ fd, FunD K "_law_alike" "_law_alike" (defArgs s__law_alike) (defBody s__law_alike) (defScope s__law_alike) [] [] (He.fAd K ("_law_alike", none)) fd := T.defn (d := Bx.d__law_alike) (fn_in 3 7)
theorem Env.d__law_replaced (T : Env w K mg) : ∃ fd, FunD K "_law_replaced" "_law_replaced" (defArgs s__law_replaced) (defBody s__law_replaced) (defScope s__law_replaced) [] [] (He.fAd K ("_law_replaced", none)) fd := T.defn (d := Bx.d__law_replaced) (fn_in 3 8)
theorem Env.d__law_stood (T : Env w K mg) : ∃ fd, FunD K "_law_stood" "_law_stood" (defArgs s__law_stood) (defBody s__law_stood) (defScope s__law_stood) [] [] (He.fAd K ("_law_stood", none)) fd := T.defn (d := Bx.d__law_stood) (fn_in 3 9)
theorem Env.d__law_asked (T : Env w K mg) : ∃ fd, FunD K "_law_asked" "_law_asked" (defArgs s__law_asked) (defBody s__law_asked) (defScope s__law_asked) [] [] (He.fAd K ("_law_asked", none)) fd := T.defn (d := Bx.d__law_asked) (fn_in 3 10)
theorem Env.d__law_first_right (T : Env w K mg) : ∃ fd, FunD K "_law_first_right" "_law_first_right" (defArgs s__law_first_right) (defBody s__law_first_right) (defScope s__law_first_right) [] [] (He.fAd K ("_law_first_right", none)) fd := T.defn (d := Bx.d__law_first_right) (fn_in 3 11)
theorem Env.d_law (T : Env w K mg) : ∃ fd, FunD K "law" "law" (defArgs s_law) (defBody s_law) (defScope s_law) [] [] (He.fAd K ("law", none)) fd := T.defn (d := Bx.d_law) (fn_in 3 12)
theorem Env.glo_is_whole (T : Env w K mg) : mg "is_whole" = some (.ref (He.ga K "is_whole")) := T.glo (fa_in 0 0)
theorem Env.glo_is_name (T : Env w K mg) : mg "is_name" = some (.ref (He.ga K "is_name")) := T.glo (fa_in 0 1)
theorem Env.glo_is_order (T : Env w K mg) : mg "is_order" = some (.ref (He.ga K "is_order")) := T.glo (fa_in 0 2)
theorem Env.glo_Sides (T : Env w K mg) : mg "Sides" = some (.ref (He.ga K "Sides")) := T.glo (fa_in 0 3)
theorem Env.glo_are_labels (T : Env w K mg) : mg "are_labels" = some (.ref (He.ga K "are_labels")) := T.glo (fa_in 0 4)
theorem Env.glo_Parcel (T : Env w K mg) : mg "Parcel" = some (.ref (He.ga K "Parcel")) := T.glo (fa_in 0 5)
theorem Env.glo_Heap (T : Env w K mg) : mg "Heap" = some (.ref (He.ga K "Heap")) := T.glo (fa_in 0 6)
theorem Env.glo_is_parcel_turned (T : Env w K mg) : mg "is_parcel_turned" = some (.ref (He.ga K "is_parcel_turned")) := T.glo (fa_in 0 7)
theorem Env.glo_are_two_by (T : Env w K mg) : mg "are_two_by" = some (.ref (He.ga K "are_two_by")) := T.glo (fa_in 0 8)
theorem Env.glo_has_form (T : Env w K mg) : mg "has_form" = some (.ref (He.ga K "has_form")) := T.glo (fa_in 0 9)
theorem Env.glo_names_in (T : Env w K mg) : mg "names_in" = some (.ref (He.ga K "names_in")) := T.glo (fa_in 0 10)
theorem Env.glo_beside (T : Env w K mg) : mg "beside" = some (.ref (He.ga K "beside")) := T.glo (fa_in 0 11)
theorem Env.glo_three_of (T : Env w K mg) : mg "three_of" = some (.ref (He.ga K "three_of")) := T.glo (fa_in 0 12)
theorem Env.glo_is_laying (T : Env w K mg) : mg "is_laying" = some (.ref (He.ga K "is_laying")) := T.glo (fa_in 0 13)
theorem Env.glo_need_laying (T : Env w K mg) : mg "need_laying" = some (.ref (He.ga K "need_laying")) := T.glo (fa_in 0 14)
theorem Env.glo_sides_of (T : Env w K mg) : mg "sides_of" = some (.ref (He.ga K "sides_of")) := T.glo (fa_in 0 15)
theorem Env.glo_turned_three (T : Env w K mg) : mg "turned_three" = some (.ref (He.ga K "turned_three")) := T.glo (fa_in 0 16)
theorem Env.glo_turned_by (T : Env w K mg) : mg "turned_by" = some (.ref (He.ga K "turned_by")) := T.glo (fa_in 0 17)
theorem Env.glo_Laid (T : Env w K mg) : mg "Laid" = some (.ref (He.ga K "Laid")) := T.glo (fa_in 0 18)
theorem Env.glo_volume_of (T : Env w K mg) : mg "volume_of" = some (.ref (He.ga K "volume_of")) := T.glo (fa_in 0 19)
theorem Env.glo_need_names (T : Env w K mg) : mg "need_names" = some (.ref (He.ga K "need_names")) := T.glo (fa_in 1 0)
theorem Env.glo_chosen (T : Env w K mg) : mg "chosen" = some (.ref (He.ga K "chosen")) := T.glo (fa_in 1 1)
theorem Env.glo_choices_of (T : Env w K mg) : mg "choices_of" = some (.ref (He.ga K "choices_of")) := T.glo (fa_in 1 2)
theorem Env.glo_partings_of (T : Env w K mg) : mg "partings_of" = some (.ref (He.ga K "partings_of")) := T.glo (fa_in 1 3)
theorem Env.glo_all_ways (T : Env w K mg) : mg "all_ways" = some (.ref (He.ga K "all_ways")) := T.glo (fa_in 1 4)
theorem Env.glo_is_held (T : Env w K mg) : mg "is_held" = some (.ref (He.ga K "is_held")) := T.glo (fa_in 1 5)
theorem Env.glo_with_two (T : Env w K mg) : mg "with_two" = some (.ref (He.ga K "with_two")) := T.glo (fa_in 1 6)
theorem Env.glo_laid_lists (T : Env w K mg) : mg "laid_lists" = some (.ref (He.ga K "laid_lists")) := T.glo (fa_in 1 7)
theorem Env.glo_papers_of (T : Env w K mg) : mg "papers_of" = some (.ref (He.ga K "papers_of")) := T.glo (fa_in 1 8)
theorem Env.glo_least_bundle (T : Env w K mg) : mg "least_bundle" = some (.ref (He.ga K "least_bundle")) := T.glo (fa_in 1 9)
theorem Env.glo__law_cell (T : Env w K mg) : mg "_law_cell" = some (.ref (He.ga K "_law_cell")) := T.glo (fa_in 1 10)
theorem Env.glo__law_purse (T : Env w K mg) : mg "_law_purse" = some (.ref (He.ga K "_law_purse")) := T.glo (fa_in 1 11)
theorem Env.glo__law_take (T : Env w K mg) : mg "_law_take" = some (.ref (He.ga K "_law_take")) := T.glo (fa_in 1 12)
theorem Env.glo__law_names (T : Env w K mg) : mg "_law_names" = some (.ref (He.ga K "_law_names")) := T.glo (fa_in 1 13)
theorem Env.glo__law_orders (T : Env w K mg) : mg "_law_orders" = some (.ref (He.ga K "_law_orders")) := T.glo (fa_in 1 14)
theorem Env.glo__law_three (T : Env w K mg) : mg "_law_three" = some (.ref (He.ga K "_law_three")) := T.glo (fa_in 1 15)
theorem Env.glo__law_heap (T : Env w K mg) : mg "_law_heap" = some (.ref (He.ga K "_law_heap")) := T.glo (fa_in 1 16)
theorem Env.glo__law_laying (T : Env w K mg) : mg "_law_laying" = some (.ref (He.ga K "_law_laying")) := T.glo (fa_in 1 17)
theorem Env.glo__law_picked (T : Env w K mg) : mg "_law_picked" = some (.ref (He.ga K "_law_picked")) := T.glo (fa_in 1 18)
theorem Env.glo__law_book (T : Env w K mg) : mg "_law_book" = some (.ref (He.ga K "_law_book")) := T.glo (fa_in 1 19)
theorem Env.glo__law_span (T : Env w K mg) : mg "_law_span" = some (.ref (He.ga K "_law_span")) := T.glo (fa_in 2 0)
theorem Env.glo__law_named (T : Env w K mg) : mg "_law_named" = some (.ref (He.ga K "_law_named")) := T.glo (fa_in 2 1)
theorem Env.glo__law_is_whole (T : Env w K mg) : mg "_law_is_whole" = some (.ref (He.ga K "_law_is_whole")) := T.glo (fa_in 2 2)
theorem Env.glo__law_is_order (T : Env w K mg) : mg "_law_is_order" = some (.ref (He.ga K "_law_is_order")) := T.glo (fa_in 2 3)
theorem Env.glo__law_choices (T : Env w K mg) : mg "_law_choices" = some (.ref (He.ga K "_law_choices")) := T.glo (fa_in 2 4)
theorem Env.glo__law_all_choices (T : Env w K mg) : mg "_law_all_choices" = some (.ref (He.ga K "_law_all_choices")) := T.glo (fa_in 2 5)
theorem Env.glo__law_held (T : Env w K mg) : mg "_law_held" = some (.ref (He.ga K "_law_held")) := T.glo (fa_in 2 6)
theorem Env.glo__law_pairs_held (T : Env w K mg) : mg "_law_pairs_held" = some (.ref (He.ga K "_law_pairs_held")) := T.glo (fa_in 2 7)
theorem Env.glo__law_list_right (T : Env w K mg) : mg "_law_list_right" = some (.ref (He.ga K "_law_list_right")) := T.glo (fa_in 2 8)
theorem Env.glo__law_shown (T : Env w K mg) : mg "_law_shown" = some (.ref (He.ga K "_law_shown")) := T.glo (fa_in 2 9)
theorem Env.glo__law_volume (T : Env w K mg) : mg "_law_volume" = some (.ref (He.ga K "_law_volume")) := T.glo (fa_in 2 10)
theorem Env.glo__law_right (T : Env w K mg) : mg "_law_right" = some (.ref (He.ga K "_law_right")) := T.glo (fa_in 2 11)
theorem Env.glo__law_alike (T : Env w K mg) : mg "_law_alike" = some (.ref (He.ga K "_law_alike")) := T.glo (fa_in 2 12)
theorem Env.glo__law_replaced (T : Env w K mg) : mg "_law_replaced" = some (.ref (He.ga K "_law_replaced")) := T.glo (fa_in 2 13)
theorem Env.glo__law_stood (T : Env w K mg) : mg "_law_stood" = some (.ref (He.ga K "_law_stood")) := T.glo (fa_in 2 14)
theorem Env.glo__law_asked (T : Env w K mg) : mg "_law_asked" = some (.ref (He.ga K "_law_asked")) := T.glo (fa_in 2 15)
theorem Env.glo__law_first_right (T : Env w K mg) : mg "_law_first_right" = some (.ref (He.ga K "_law_first_right")) := T.glo (fa_in 2 16)
theorem Env.glo_law (T : Env w K mg) : mg "law" = some (.ref (He.ga K "law")) := T.glo (fa_in 2 17)
theorem Env.free_all (T : Env w K mg) : mg "all" = none := T.free (fa_in 2 18)
theorem Env.free_bool (T : Env w K mg) : mg "bool" = none := T.free (fa_in 2 19)
theorem Env.free_dict (T : Env w K mg) : mg "dict" = none := T.free (fa_in 3 0)
theorem Env.free_enumerate (T : Env w K mg) : mg "enumerate" = none := T.free (fa_in 3 1)
theorem Env.free_int (T : Env w K mg) : mg "int" = none := T.free (fa_in 3 2)
theorem Env.free_isinstance (T : Env w K mg) : mg "isinstance" = none := T.free (fa_in 3 3)
theorem Env.free_len (T : Env w K mg) : mg "len" = none := T.free (fa_in 3 4)
theorem Env.free_list (T : Env w K mg) : mg "list" = none := T.free (fa_in 3 5)
theorem Env.free_max (T : Env w K mg) : mg "max" = none := T.free (fa_in 3 6)
theorem Env.free_min (T : Env w K mg) : mg "min" = none := T.free (fa_in 3 7)
theorem Env.free_range (T : Env w K mg) : mg "range" = none := T.free (fa_in 3 8)
theorem Env.free_repr (T : Env w K mg) : mg "repr" = none := T.free (fa_in 3 9)
theorem Env.free_set (T : Env w K mg) : mg "set" = none := T.free (fa_in 3 10)
theorem Env.free_sorted (T : Env w K mg) : mg "sorted" = none := T.free (fa_in 3 11)
theorem Env.free_str (T : Env w K mg) : mg "str" = none := T.free (fa_in 3 12)
theorem Env.free_sum (T : Env w K mg) : mg "sum" = none := T.free (fa_in 3 13)
theorem Env.free_tuple (T : Env w K mg) : mg "tuple" = none := T.free (fa_in 3 14)
theorem Env.free_zip (T : Env w K mg) : mg "zip" = none := T.free (fa_in 3 15)
theorem Env.int_MOST_SIDE (T : Env w K mg) : ∃ u, mg "MOST_SIDE" = some u ∧ RelV (.int 100000) u := (T.int (i := 100000) (fa_in 3 16)).elim fun t h => ⟨_, h, t, rfl⟩
theorem Env.int_MOST_WALL (T : Env w K mg) : ∃ u, mg "MOST_WALL" = some u ∧ RelV (.int 1000) u := (T.int (i := 1000) (fa_in 3 17)).elim fun t h => ⟨_, h, t, rfl⟩
theorem Env.int_MOST_WEIGHT (T : Env w K mg) : ∃ u, mg "MOST_WEIGHT" = some u ∧ RelV (.int 100000) u := (T.int (i := 100000) (fa_in 3 18)).elim fun t h => ⟨_, h, t, rfl⟩
theorem Env.int_MOST_PARCELS (T : Env w K mg) : ∃ u, mg "MOST_PARCELS" = some u ∧ RelV (.int 12) u := (T.int (i := 12) (fa_in 3 19)).elim fun t h => ⟨_, h, t, rfl⟩
theorem Env.int_MOST_LAID (T : Env w K mg) : ∃ u, mg "MOST_LAID" = some u ∧ RelV (.int 6) u := (T.int (i := 6) (fa_in 4 0)).elim fun t h => ⟨_, h, t, rfl⟩
theorem Env.int_MOST_NAMES (T : Env w K mg) : ∃ u, mg "MOST_NAMES" = some u ∧ RelV (.int 4) u := (T.int (i := 4) (fa_in 4 1)).elim fun t h => ⟨_, h, t, rfl⟩
theorem Env.str_LETTERS (T : Env w K mg) : ∃ u, mg "LETTERS" = some u ∧ RelV (.str "abcdefghijklmnopqrstuvwxyz") u := (T.str (z := "abcdefghijklmnopqrstuvwxyz") (fa_in 4 2)).elim fun t h => ⟨_, h, t, rfl⟩
theorem Env.glo_ORDERS (T : Env w K mg) : mg "ORDERS" = some (.ref (He.ga K "ORDERS")) := T.glo (fa_in 4 3)
theorem Env.glo_LABELS (T : Env w K mg) : mg "LABELS" = some (.ref (He.ga K "LABELS")) := T.glo (fa_in 4 4)
theorem Env.glo_FORMS (T : Env w K mg) : mg "FORMS" = some (.ref (He.ga K "FORMS")) := T.glo (fa_in 4 5)
theorem Env.cls_Sides (T : Env w K mg) : Cls K (He.ga K "Sides") := He.cls_ok (T.fact (fa_in 4 6))
theorem Env.mkr_Sides (T : Env w K mg) : Mk K (He.ga K "Sides") (He.fAd K ("Sides", some "__init__")) := He.mkr_ok (T.fact (fa_in 4 7))
theorem Env.noat_Sides_three (T : Env w K mg) : NoAttr K (He.ga K "Sides") "three" := He.noat_ok (T.fact (fa_in 4 9))
theorem Env.meth_Sides_told (T : Env w K mg) : Meth K (He.ga K "Sides") "told" (He.fAd K ("Sides", some "told")) := He.meth_ok (T.fact (fa_in 4 10))
theorem Env.meth_Sides_ranked (T : Env w K mg) : Meth K (He.ga K "Sides") "ranked" (He.fAd K ("Sides", some "ranked")) := He.meth_ok (T.fact (fa_in 4 11))
theorem Env.meth_Sides_volume (T : Env w K mg) : Meth K (He.ga K "Sides") "volume" (He.fAd K ("Sides", some "volume")) := He.meth_ok (T.fact (fa_in 4 12))
theorem Env.meth_Sides_str (T : Env w K mg) : Meth K (He.ga K "Sides") "__str__" (He.fAd K ("Sides", some "__str__")) := He.meth_ok (T.fact (fa_in 4 13))
theorem Env.meth_Sides_turned (T : Env w K mg) : Meth K (He.ga K "Sides") "turned" (He.fAd K ("Sides", some "turned")) := He.meth_ok (T.fact (fa_in 4 14))
theorem Env.cls_Parcel (T : Env w K mg) : Cls K (He.ga K "Parcel") := He.cls_ok (T.fact (fa_in 4 15))
theorem Env.mkr_Parcel (T : Env w K mg) : Mk K (He.ga K "Parcel") (He.fAd K ("Parcel", some "__init__")) := He.mkr_ok (T.fact (fa_in 4 16))
theorem Env.noat_Parcel_called (T : Env w K mg) : NoAttr K (He.ga K "Parcel") "called" := He.noat_ok (T.fact (fa_in 4 18))
theorem Env.noat_Parcel_outside (T : Env w K mg) : NoAttr K (He.ga K "Parcel") "outside" := He.noat_ok (T.fact (fa_in 4 19))
theorem Env.noat_Parcel_thick (T : Env w K mg) : NoAttr K (He.ga K "Parcel") "thick" := He.noat_ok (T.fact (fa_in 5 0))
theorem Env.noat_Parcel_heavy (T : Env w K mg) : NoAttr K (He.ga K "Parcel") "heavy" := He.noat_ok (T.fact (fa_in 5 1))
theorem Env.noat_Parcel_strong (T : Env w K mg) : NoAttr K (He.ga K "Parcel") "strong" := He.noat_ok (T.fact (fa_in 5 2))
theorem Env.noat_Parcel_marks (T : Env w K mg) : NoAttr K (He.ga K "Parcel") "marks" := He.noat_ok (T.fact (fa_in 5 3))
theorem Env.meth_Parcel_name (T : Env w K mg) : Meth K (He.ga K "Parcel") "name" (He.fAd K ("Parcel", some "name")) := He.meth_ok (T.fact (fa_in 5 4))
theorem Env.meth_Parcel_sides (T : Env w K mg) : Meth K (He.ga K "Parcel") "sides" (He.fAd K ("Parcel", some "sides")) := He.meth_ok (T.fact (fa_in 5 5))
theorem Env.meth_Parcel_str (T : Env w K mg) : Meth K (He.ga K "Parcel") "__str__" (He.fAd K ("Parcel", some "__str__")) := He.meth_ok (T.fact (fa_in 5 6))
theorem Env.cls_Heap (T : Env w K mg) : Cls K (He.ga K "Heap") := He.cls_ok (T.fact (fa_in 5 7))
theorem Env.mkr_Heap (T : Env w K mg) : Mk K (He.ga K "Heap") (He.fAd K ("Heap", some "__init__")) := He.mkr_ok (T.fact (fa_in 5 8))
theorem Env.noat_Heap_held (T : Env w K mg) : NoAttr K (He.ga K "Heap") "held" := He.noat_ok (T.fact (fa_in 5 10))
theorem Env.meth_Heap_place_of (T : Env w K mg) : Meth K (He.ga K "Heap") "place_of" (He.fAd K ("Heap", some "place_of")) := He.meth_ok (T.fact (fa_in 5 11))
theorem Env.meth_Heap_put (T : Env w K mg) : Meth K (He.ga K "Heap") "put" (He.fAd K ("Heap", some "put")) := He.meth_ok (T.fact (fa_in 5 12))
theorem Env.meth_Heap_out (T : Env w K mg) : Meth K (He.ga K "Heap") "out" (He.fAd K ("Heap", some "out")) := He.meth_ok (T.fact (fa_in 5 13))
theorem Env.meth_Heap_parcel (T : Env w K mg) : Meth K (He.ga K "Heap") "parcel" (He.fAd K ("Heap", some "parcel")) := He.meth_ok (T.fact (fa_in 5 14))
theorem Env.meth_Heap_names (T : Env w K mg) : Meth K (He.ga K "Heap") "names" (He.fAd K ("Heap", some "names")) := He.meth_ok (T.fact (fa_in 5 15))
theorem Env.meth_Heap_parcels (T : Env w K mg) : Meth K (He.ga K "Heap") "parcels" (He.fAd K ("Heap", some "parcels")) := He.meth_ok (T.fact (fa_in 5 16))
theorem Env.cls_Laid (T : Env w K mg) : Cls K (He.ga K "Laid") := He.cls_ok (T.fact (fa_in 5 17))
theorem Env.mkr_Laid (T : Env w K mg) : Mk K (He.ga K "Laid") (He.fAd K ("Laid", some "__init__")) := He.mkr_ok (T.fact (fa_in 5 18))
theorem Env.noat_Laid_paper (T : Env w K mg) : NoAttr K (He.ga K "Laid") "paper" := He.noat_ok (T.fact (fa_in 6 0))
theorem Env.noat_Laid_three (T : Env w K mg) : NoAttr K (He.ga K "Laid") "three" := He.noat_ok (T.fact (fa_in 6 1))
theorem Env.noat_Laid_falling (T : Env w K mg) : NoAttr K (He.ga K "Laid") "falling" := He.noat_ok (T.fact (fa_in 6 2))
theorem Env.meth_Laid_holds (T : Env w K mg) : Meth K (He.ga K "Laid") "holds" (He.fAd K ("Laid", some "holds")) := He.meth_ok (T.fact (fa_in 6 3))
end
end Bx
set_option Elab.async false
set_option linter.all false
set_option maxRecDepth 100000
set_option maxHeartbeats 0
namespace Bx
open PySem PySem.Spec PyProof.Rows L2
abbrev R : PySem.W.OpenRow := PySem.W.OpenLaw.row PySem.Challenge.rw_boxinbox_k47_whole_least_bundle
abbrev qv : Program := PySem.W.view R.prog [90]
abbrev hk : PySem.W.Hook := hookP
def ob (s : PySem.W.SharedT) : AlP := obsP (HandSHeadRun.getT s)
theorem ob_eq (s : PySem.W.SharedT) : ob s = hk.obs s.abs := obsP_eq (HandSHeadRun.getT_eq s)
def n0 : List PySem.Str := ["_wall", "__name__", "SidesError", "NotThere", "NoNumber", "NoName", "NoSide", "NoSides", "NoOrder", "NoLabels", "NoParcel", "Doubled", "TooMany", "NoNames", "NoLaying", "NotInHeap", "LETTERS", "ORDERS", "is_whole", "is_name", "is_order", "MOST_SIDE", "Sides", "LABELS", "MOST_WALL", "MOST_WEIGHT", "are_labels", "Parcel", "MOST_PARCELS", "Heap"]
def n1 : List PySem.Str := ["MOST_LAID", "is_parcel_turned", "are_two_by", "FORMS", "has_form", "names_in", "beside", "three_of", "is_laying", "need_laying", "sides_of", "turned_three", "turned_by", "MOST_NAMES", "Laid", "volume_of", "need_names", "chosen", "choices_of", "partings_of", "all_ways", "is_held", "with_two", "laid_lists", "papers_of", "least_bundle", "_law_cell", "_law_purse", "_law_take", "_law_names"]
def n2 : List PySem.Str := ["_law_orders", "_law_three", "_law_heap", "_law_laying", "_law_picked", "_law_book", "_law_span", "_law_named", "_law_is_whole", "_law_is_order", "_law_choices", "_law_all_choices", "_law_held", "_law_pairs_held", "_law_list_right", "_law_shown", "_law_volume", "_law_right", "_law_alike", "_law_replaced", "_law_stood", "_law_asked", "_law_first_right"]
def names : List PySem.Str := n0 ++ n1 ++ n2
theorem run0 (w : World) : HandSHeadRun.RunEq R qv hk ob 9000 names (w.withFollow "special-get-raises" false) := by
  intro os
  kernel_rfl
theorem run1 (w : World) : HandSHeadRun.RunEq R qv hk ob 9000 names (w.withFollow "special-get-raises" true) := by
  intro os
  kernel_rfl
theorem run (w : World) : HandSHeadRun.RunEq R qv hk ob 9000 names w := PySem.W.byRow2 "special-get-raises" (P := fun w => HandSHeadRun.RunEq R qv hk ob 9000 names w) run0 run1 w
end Bx
set_option Elab.async false
set_option linter.all false
set_option maxRecDepth 100000
set_option maxHeartbeats 4000000
/-! BxC: the data, where they stand in the heap, calls in short. -/
namespace Bx
open PySem PySem.Spec PyProof.Rows L2

/-! ### triples, orders, layings -/
structure T3 where
  x : Int
  y : Int
  z : Int
  deriving DecidableEq
def T3.l (t : T3) : List Int := [t.x, t.y, t.z]
abbrev T3.v (t : T3) : List V := [.int t.x, .int t.y, .int t.z]
def T3.get (t : T3) : Fin 3 → Int
  | 0 => t.x
  | 1 => t.y
  | 2 => t.z
def T3.put (t : T3) (k : Fin 3) (u : Int) : T3 := match k with
  | 0 => ⟨u, t.y, t.z⟩
  | 1 => ⟨t.x, u, t.z⟩
  | 2 => ⟨t.x, t.y, u⟩
/-- the k-th number of the o-th order -/
def oAt (o : Fin 6) (k : Fin 3) : Fin 3 := match o, k with
  | 0, 0 => 0 | 0, 1 => 1 | 0, 2 => 2
  | 1, 0 => 0 | 1, 1 => 2 | 1, 2 => 1
  | 2, 0 => 1 | 2, 1 => 0 | 2, 2 => 2
  | 3, 0 => 1 | 3, 1 => 2 | 3, 2 => 0
  | 4, 0 => 2 | 4, 1 => 0 | 4, 2 => 1
  | 5, 0 => 2 | 5, 1 => 1 | 5, 2 => 0
def oV (o : Fin 6) : List V := [.int ((oAt o 0).val : Int), .int ((oAt o 1).val : Int), .int ((oAt o 2).val : Int)]
def T3.turn (t : T3) (o : Fin 6) : T3 := ⟨t.get (oAt o 0), t.get (oAt o 1), t.get (oAt o 2)⟩
/-- the place of k in the o-th order -/
def oIdx (o : Fin 6) (k : Fin 3) : Fin 3 := if oAt o 0 = k then 0 else if oAt o 1 = k then 1 else 2
/-- the order that is the p-th one turned by the o-th one -/
def oTurn (p o : Fin 6) : Fin 6 := ((List.finRange 6).find? fun r => oAt r 0 = oAt p (oAt o 0) && oAt r 1 = oAt p (oAt o 1)).getD 0
theorem oTurn_at : ∀ (p o : Fin 6) (k : Fin 3), oAt (oTurn p o) k = oAt p (oAt o k) := by decide +kernel
theorem oIdx_at : ∀ (o : Fin 6) (k : Fin 3), oAt o (oIdx o k) = k := by decide
theorem oAt_idx : ∀ (o : Fin 6) (k : Fin 3), oIdx o (oAt o k) = k := by decide
def beside (a b : T3) (k : Fin 3) : T3 := T3.put ⟨max a.x b.x, max a.y b.y, max a.z b.z⟩ k (a.get k + b.get k)
inductive Lay where
  | one (n : Str) (o : Fin 6)
  | by_ (k : Fin 3) (a b : Lay)
def Lay.names : Lay → List Str
  | .one n _ => [n]
  | .by_ _ a b => a.names ++ b.names
def Lay.span (S : Str → T3) : Lay → T3
  | .one n o => (S n).turn o
  | .by_ k a b => beside (a.span S) (b.span S) k
def Lay.turn : Lay → Fin 6 → Lay
  | .one n p, o => .one n (oTurn p o)
  | .by_ k a b, o => .by_ (oIdx o k) (a.turn o) (b.turn o)
def Lay.depth : Lay → Nat
  | .one _ _ => 0
  | .by_ _ a b => max a.depth b.depth + 1
def T3.vol (t : T3) : Int := t.x * t.y * t.z

/-! ### in the heap -/
section
variable (K : PySem.W.Frag) (H : Hp)
abbrev CS : Addr := He.ga K "Sides"
abbrev CP : Addr := He.ga K "Parcel"
abbrev CH : Addr := He.ga K "Heap"
abbrev CL : Addr := He.ga K "Laid"
/-- v is a tuple of these -/
def TupAt (v : V) (xs : List V) : Prop := ∃ p, v = .ref p ∧ SqT K H p xs
def T3At (v : V) (t : T3) : Prop := TupAt K H v t.v
def OrdAt (v : V) (o : Fin 6) : Prop := TupAt K H v (oV o)
def LayAt : V → Lay → Prop
  | v, .one n o => ∃ q, TupAt K H v [.str "one", .str n, q] ∧ OrdAt K H q o
  | v, .by_ k a b => ∃ va vb, TupAt K H v [.str "by", .int (k.val : Int), va, vb] ∧ LayAt va a ∧ LayAt vb b
end
theorem Same_tup {K : PySem.W.Frag} {H H' : Hp} {a : Addr} {xs : List V} (e : Same H H') (h : SqT K H a xs) : SqT K H' a xs := by
  rcases h with (h | ⟨o, h⟩) | h
  · exact .inl (.inl (e _ _ h))
  · exact .inl (.inr ⟨o, e _ _ h⟩)
  · exact .inr h
section
variable {K : PySem.W.Frag} {H H' : Hp}
theorem TupAt.mono (S : Same H H') {v : V} {xs : List V} (h : TupAt K H v xs) : TupAt K H' v xs := by
  obtain ⟨p, rfl, h⟩ := h
  exact ⟨p, rfl, Same_tup S h⟩
theorem T3At.mono (S : Same H H') {v : V} {t : T3} (h : T3At K H v t) : T3At K H' v t := TupAt.mono S h
theorem OrdAt.mono (S : Same H H') {v : V} {o : Fin 6} (h : OrdAt K H v o) : OrdAt K H' v o := TupAt.mono S h
theorem LayAt.mono (S : Same H H') : ∀ {L : Lay} {v : V}, LayAt K H v L → LayAt K H' v L
  | .one _ _, _, ⟨q, h1, h2⟩ => ⟨q, h1.mono S, h2.mono S⟩
  | .by_ _ _ _, _, ⟨va, vb, h1, h2, h3⟩ => ⟨va, vb, h1.mono S, LayAt.mono S h2, LayAt.mono S h3⟩
end

/-! ### parts of the heap -/
/-- all but what stands at these addresses is as it was -/
def Sm (S : List Addr) (H H' : Hp) : Prop := ∀ b u, b ∉ S → H b = some u → H' b = some u
def off (S : List Addr) (H : Hp) : Hp := fun b => if b ∈ S then none else H b
section
variable {S : List Addr} {H H1 H2 G : Hp} {p : Addr}
theorem Sm.refl : Sm S H H := fun _ _ _ h => h
theorem Sm.trans (a : Sm S H H1) (b : Sm S H1 H2) : Sm S H H2 := fun c u n h => b c u n (a c u n h)
theorem Same_sm (a : Same H H1) : Sm S H H1 := fun c u _ h => a c u h
theorem Sm.same (a : Sm [] H H1) : Same H H1 := fun c u h => a c u (by simp) h
theorem off_le : Same (off S H) H := fun b u h => by
  unfold off at h
  split at h
  · cases h
  · exact h
theorem off_in (h : p ∈ S) : off S H p = none := if_pos h
theorem off_out (h : p ∉ S) : off S H p = H p := if_neg h
theorem Sm.off (a : Sm S H H1) : Same (Bx.off S H) (Bx.off S H1) := fun b u h => by
  have hb : b ∉ S := fun m => by rw [off_in m] at h; cases h
  rw [off_out hb] at h ⊢
  exact a b u hb h
theorem Sm.of_off (a : Same (Bx.off S H) H1) : Sm S H H1 := fun b u n h => a b u (by rw [off_out n]; exact h)
/-- what stands in G, at none of these addresses, stays -/
theorem Sm.keep (a : Sm S H H1) (g : Same G H) (d : ∀ b ∈ S, G b = none) : Same G H1 := fun b u h => by
  refine a b u (fun m => ?_) (g b u h)
  rw [d b m] at h
  cases h
theorem Same_off (g : Same G H) (d : ∀ b ∈ S, G b = none) : Same G (off S H) := fun b u h => by
  have hb : b ∉ S := fun m => by rw [d b m] at h; cases h
  rw [off_out hb]
  exact g b u h
theorem same_upd {u : HO} (h : H p = none) : Same H (upd H p u) := fun b o e => by
  rw [upd_ne (ne_of_none e h)]
  exact e
theorem sm_upd {u : HO} (h : p ∈ S) : Sm S H (upd H p u) := fun b o n e => by
  rw [upd_ne (fun q => n (by rw [q]; exact h))]
  exact e
theorem sm_new {u : HO} (h : H p = none) : Sm S H (upd H p u) := Same_sm (same_upd h)
end

/-! ### calls in short -/
section
variable (P : Program) (w : World) (K : PySem.W.Frag) (mg : Str → Option Value) (base : Heap)
/-- the module's def x keeps this promise -/
def Fx (x : Str) (k : Nat) (ps : List Str) (sp : Sp) : Prop := ∃ (f : Addr) (fd : FuncData), mg x = some (.ref f) ∧ PySem.W.keepIn K (.ref f) = true ∧ Binds K fd ps [] ∧ FnOk P w K mg base CX0 k f fd ps sp
/-- the class's method m does; dvs: what its defaults give -/
def Mx (C : Addr) (m : Str) (k : Nat) (ps : List Str) (dvs : List V) (sp : Sp) : Prop := ∃ (f : Addr) (fd : FuncData) (ds : List Value), Meth K C m f ∧ Vals dvs ds ∧ Binds K fd ps ds ∧ FnOk P w K mg base CX0 k f fd ps sp
/-- its __init__ does -/
def Kx (x : Str) (C : Addr) (k : Nat) (ps : List Str) (dvs : List V) (sp : Sp) : Prop := ∃ (f : Addr) (fd : FuncData) (ds : List Value), mg x = some (.ref C) ∧ Mk K C f ∧ Vals dvs ds ∧ Binds K fd ps ds ∧ FnOk P w K mg base CX0 k f fd ps sp
end
section
variable {X : Cx} {k : Nat} {ps : List Str} {sp : Sp} {x m : Str} {C : Addr} {dvs : List V} {e o : Expr} {es : List Expr} {t : TA} {ta : TE} {p pos apos : Pos}
theorem pe_fx (F : Fx X.prog X.w X.K X.mg X.base x k ps sp) (hr : Room k X.A) (hg : Gl X x) (ha : PA X (e :: es) t) (hdb : (x == ("__debug__" : Str)) = false := by decide)
    (he : starEach (e :: es) X.env = (false, eval e X.env) :: starEach es X.env := by rfl) (hpl : (backTo pos (starEach es X.env)).any (·.1) = false := by rfl) :
    PE X (.Call (.Name x p) (e :: es) [] pos) (tCall sp [] E0 t) := by
  obtain ⟨f, fd, h1, h2, h3, h4⟩ := F
  exact pe_call h4 hr hg h1 h2 h3 .nil pass0 ha hdb he hpl
theorem pe_fx0 (F : Fx X.prog X.w X.K X.mg X.base x k ps sp) (hr : Room k X.A) (hg : Gl X x) (hdb : (x == ("__debug__" : Str)) = false := by decide) :
    PE X (.Call (.Name x p) [] [] pos) (tCall sp [] E0 tNil) := by
  obtain ⟨f, fd, h1, h2, h3, h4⟩ := F
  exact pe_call0 h4 hr hg h1 h2 h3 .nil pass0 hdb
theorem pe_kx (F : Kx X.prog X.w X.K X.mg X.base x C k ps dvs sp) (hr : Room (k + 1) X.A) (hg : Gl X x) (ha : PA X (e :: es) t) (hdb : (x == ("__debug__" : Str)) = false := by decide)
    (he : starEach (e :: es) X.env = (false, eval e X.env) :: starEach es X.env := by rfl) (hpl : (backTo pos (starEach es X.env)).any (·.1) = false := by rfl) :
    PE X (.Call (.Name x p) (e :: es) [] pos) (tMake C sp dvs E0 t) := by
  obtain ⟨f, fd, ds, h1, h2, h3, h4, h5⟩ := F
  exact pe_make h2 h5 hr hg h1 h4 h3 pass0 ha hdb he hpl
theorem pe_kx0 (F : Kx X.prog X.w X.K X.mg X.base x C k ps dvs sp) (hr : Room (k + 1) X.A) (hg : Gl X x) (hdb : (x == ("__debug__" : Str)) = false := by decide) :
    PE X (.Call (.Name x p) [] [] pos) (tMake C sp dvs E0 tNil) := by
  obtain ⟨f, fd, ds, h1, h2, h3, h4, h5⟩ := F
  exact pe_make0 h2 h5 hr hg h1 h4 h3 pass0 hdb
theorem pe_mx {pl : Sem Bool} (c : Cls X.K C) (F : Mx X.prog X.w X.K X.mg X.base C m k ps dvs sp) (hr : Room k X.A) (he : PE X o ta) (ha : PA X (e :: es) t)
    (hst : starEach (e :: es) X.env = (false, eval e X.env) :: starEach es X.env := by rfl) (hpl : (backTo pos (starEach es X.env)).any (·.1) = false := by rfl)
    (ht : eval (.Call (.Attribute o m apos) (e :: es) [] pos) X.env = (do
      let ov ← eval o X.env
      standAt apos.atName
      let (f, first) ← holding [ov] (getMethod ov m pl)
      callWith pos f first (backTo pos (starEach (e :: es) X.env)) (backToKw pos (keywordEach [] X.env))) := by rfl) :
    PE X (.Call (.Attribute o m apos) (e :: es) [] pos) (tMeth C m sp dvs E0 ta t) := by
  obtain ⟨f, fd, ds, h1, h2, h3, h4⟩ := F
  exact pe_meth he c h1 h4 hr h3 h2 pass0 ha hst hpl ht
theorem pe_mx0 {pl : Sem Bool} (c : Cls X.K C) (F : Mx X.prog X.w X.K X.mg X.base C m k ps dvs sp) (hr : Room k X.A) (he : PE X o ta)
    (ht : eval (.Call (.Attribute o m apos) [] [] pos) X.env = (do
      let ov ← eval o X.env
      standAt apos.atName
      let (f, first) ← holding [ov] (getMethod ov m pl)
      callWith pos f first (backTo pos (starEach [] X.env)) (backToKw pos (keywordEach [] X.env))) := by rfl) :
    PE X (.Call (.Attribute o m apos) [] [] pos) (tMeth C m sp dvs E0 ta tNil) := by
  obtain ⟨f, fd, ds, h1, h2, h3, h4⟩ := F
  exact pe_meth0 he c h1 h4 hr h3 h2 pass0 ht
end
end Bx
set_option Elab.async false
set_option linter.all false
set_option maxRecDepth 100000
set_option maxHeartbeats 4000000
/-! BxC2: comprehensions over a heap of which a part stays. -/
namespace Bx
open PySem PySem.Spec PyProof.Rows L2
theorem off_upd {S : List Addr} {H : Hp} {D : Addr} {u : HO} (h : D ∈ S) : off S (upd H D u) = off S H := by
  funext b
  unfold off
  split
  · rfl
  · rename_i n
    rw [upd_ne fun q => n (by rw [q]; exact h)]
theorem sm_at {S : List Addr} {H H1 : Hp} {b : Addr} {u : HO} (a : Sm S H H1) (n : b ∉ S) (h : H b = some u) : H1 b = some u := a b u n h
section
variable {J : It} {n : Nat} {G : Hp → Prop} {Y : Nat → Hp → V → Hp → Prop}
/-- the made list's items told by Pa over the heap without the list and S; what changes (S) told by M -/
theorem lc_acc (w : Walk J n G Y) {g : TG} {tt : TT} {te : TE} {vs : List Nat} {σ : L2.St} {H1 : Hp} {D : Addr} {Qd : Hp → Prop} (S : List Addr) (M : Nat → Hp → Prop) (Pa : Nat → List V → Hp → Prop) (hD : H1 D = none) (hS : D ∉ S)
    (hM : ∀ i H u, M i H → M i (upd H D u)) (h0 : M 0 H1) (p0 : Pa 0 [] (off (D :: S) H1)) (hG : ∀ H, Sm S H1 H → G H)
    (hs : ∀ i x H H' acc, i < n → Sm S H1 H → M i H → H D = some (.lst acc) → Pa i acc (off (D :: S) H) → Y i H x H' → ∀ (Kt : V → Hp → Prop) (Kf : Hp → Prop),
      (∀ y H4, Sm S H H4 → acc.length < sizeLine → M (i + 1) H4 → Pa (i + 1) (acc ++ [y]) (off (D :: S) H4) → Kt y H4) → (∀ H3, Sm S H H3 → M (i + 1) H3 → Pa (i + 1) acc (off (D :: S) H3) → Kf H3) →
      g x (wipe σ vs) H' fun σ2 H2 => wipe σ2 vs = wipe σ vs ∧ tt σ2 H2 fun b H3 => if b = true then te σ2 H3 Kt else Kf H3)
    (hd : ∀ H acc, Sm S H1 H → M n H → H D = some (.lst acc) → Pa n acc (off (D :: S) H) → Qd H) :
    ∃ W : Nat → Nat → Hp → Prop, (∃ m, W 0 m (upd H1 D (.lst []))) ∧ ∀ i m H, W i m H →
      (J.stop i H ∧ Qd H) ∨ (J.go i H ∧ ∃ Nx : Hp → Prop, (∀ H', Nx H' → ∃ m', m' < m ∧ W (i + 1) m' H') ∧ ∀ x H', J.yld i H x H' → g x (wipe σ vs) H' fun σ2 H2 => wipe σ2 vs = wipe σ vs ∧ tt σ2 H2 fun b H3 =>
        if b = true then te σ2 H3 fun y H4 => ∃ acc, H4 D = some (.lst acc) ∧ acc.length < sizeLine ∧ Nx (upd H4 D (.lst (acc ++ [y]))) else Nx H3) := by
  refine lc_it w (fun i H => Sm S H1 H ∧ M i H ∧ ∃ acc, H D = some (.lst acc) ∧ Pa i acc (off (D :: S) H)) ⟨sm_new hD, hM _ _ _ h0, [], upd_same, by rw [off_upd (by simp)]; exact p0⟩ (fun i H _ p => hG H p.1) ?_ (fun H ⟨a, m, acc, e, p⟩ => hd H acc a m e p)
  rintro i x H H' hi ⟨a, m, acc, e, p⟩ y
  refine hs i x H H' acc hi a m e p y _ _ (fun y H4 b1 b2 b3 b4 => ?_) fun H3 b1 b2 b3 => ?_
  · refine ⟨acc, b1 D _ hS e, b2, ?_, hM _ _ _ b3, acc ++ [y], upd_same, by rw [off_upd (by simp)]; exact b4⟩
    intro c u nc hc
    rw [upd_ne (ne_of_none hc hD)]
    exact b1 c u nc (a c u nc hc)
  · exact ⟨a.trans b1, b2, acc, b1 D _ hS e, b3⟩
/-- each item gives one: R tells of the i-th one, xs i what is walked -/
theorem lc_map (w : Walk J n G Y) {j : Nat} {te : TE} {σ : L2.St} {H1 : Hp} {D : Addr} {Qd : Hp → Prop} (S : List Addr) (M : Nat → Hp → Prop) (xs : Nat → V) (R : Nat → V → Hp → Prop) (hY : ∀ i H x H', i < n → Y i H x H' → H' = H ∧ x = xs i)
    (hD : H1 D = none) (hS : D ∉ S) (hz : n ≤ sizeLine) (hM : ∀ i H u, M i H → M i (upd H D u)) (h0 : M 0 H1) (hR : ∀ i y A B, Same A B → R i y A → R i y B) (hG : ∀ H, Sm S H1 H → G H)
    (hs : ∀ i H, i < n → Sm S H1 H → M i H → ∀ (Kt : V → Hp → Prop), (∀ y H4, Sm S H H4 → M (i + 1) H4 → R i y (off (D :: S) H4) → Kt y H4) → te ((σ.set j none).set j (some (xs i))) H Kt)
    (hd : ∀ H acc, Sm S H1 H → M n H → H D = some (.lst acc) → acc.length = n → (∀ i y, acc[i]? = some y → R i y (off (D :: S) H)) → Qd H) :
    ∃ W : Nat → Nat → Hp → Prop, (∃ m, W 0 m (upd H1 D (.lst []))) ∧ ∀ i m H, W i m H →
      (J.stop i H ∧ Qd H) ∨ (J.go i H ∧ ∃ Nx : Hp → Prop, (∀ H', Nx H' → ∃ m', m' < m ∧ W (i + 1) m' H') ∧ ∀ x H', J.yld i H x H' → gName j x (wipe σ [j]) H' fun σ2 H2 => wipe σ2 [j] = wipe σ [j] ∧ tYes σ2 H2 fun b H3 =>
        if b = true then te σ2 H3 fun y H4 => ∃ acc, H4 D = some (.lst acc) ∧ acc.length < sizeLine ∧ Nx (upd H4 D (.lst (acc ++ [y]))) else Nx H3) := by
  refine lc_acc w S M (fun i acc A => acc.length = i ∧ ∀ (k : Nat) (y : V), acc[k]? = some y → R k y A) hD hS hM h0 ⟨rfl, fun k y e => by simp at e⟩ hG ?_ fun H acc a m e ⟨p1, p2⟩ => hd H acc a m e p1 p2
  intro i x H H' acc hi a m e ⟨p1, p2⟩ y Kt Kf kt _
  obtain ⟨rfl, rfl⟩ := hY i H x H' hi y
  refine ⟨?_, ?_⟩
  · show ((σ.set j none).set j _).set j none = σ.set j none
    rw [List.set_set, List.set_set]
  · show if true = true then te ((σ.set j none).set j (some (xs i))) H' Kt else Kf H'
    refine iteT (hs i H' hi a m Kt fun y H4 b1 b2 b3 => kt y H4 b1 (by omega) b2 ⟨by simp [p1], fun k z ez => ?_⟩)
    have sm : Same (off (D :: S) H') (off (D :: S) H4) := Sm.off fun b u nb h => b1 b u (fun q => nb (List.mem_cons_of_mem _ q)) h
    rcases Nat.lt_or_ge k acc.length with hk | hk
    · rw [List.getElem?_append_left hk] at ez
      exact hR k z _ _ sm (p2 k z ez)
    · rw [List.getElem?_append_right hk] at ez
      have hk2 : k - acc.length = 0 := by
        rcases Nat.eq_zero_or_pos (k - acc.length) with q | q
        · exact q
        · rw [List.getElem?_eq_none (show [y].length ≤ k - acc.length from q)] at ez
          cases ez
      rw [hk2] at ez
      have e1 : y = z := Option.some.inj ez
      have e2 : k = i := by omega
      rw [← e1, e2]
      exact b3
/-- the same over a sequence that stands, nothing old changing -/
theorem lc_src {xs : List V} (w : Walk J xs.length G (YAt xs)) {j : Nat} {te : TE} {σ : L2.St} {H1 : Hp} {D : Addr} {Qd : Hp → Prop} (hG : ∀ H, Same H1 H → G H) (hD : H1 D = none) (hz : xs.length ≤ sizeLine) (R : Nat → V → Hp → Prop) (hR : ∀ i y A B, Same A B → R i y A → R i y B)
    (hs : ∀ i x H, xs[i]? = some x → Same H1 H → (∃ acc, H D = some (.lst acc)) → ∀ (Kt : V → Hp → Prop), (∀ y H4, Same H H4 → R i y (off [D] H4) → Kt y H4) → te ((σ.set j none).set j (some x)) H Kt)
    (hd : ∀ H acc, Same H1 H → H D = some (.lst acc) → acc.length = xs.length → (∀ (i : Nat) (y : V), acc[i]? = some y → R i y (off [D] H)) → Qd H) :
    ∃ W : Nat → Nat → Hp → Prop, (∃ m, W 0 m (upd H1 D (.lst []))) ∧ ∀ i m H, W i m H →
      (J.stop i H ∧ Qd H) ∨ (J.go i H ∧ ∃ Nx : Hp → Prop, (∀ H', Nx H' → ∃ m', m' < m ∧ W (i + 1) m' H') ∧ ∀ x H', J.yld i H x H' → gName j x (wipe σ [j]) H' fun σ2 H2 => wipe σ2 [j] = wipe σ [j] ∧ tYes σ2 H2 fun b H3 =>
        if b = true then te σ2 H3 fun y H4 => ∃ acc, H4 D = some (.lst acc) ∧ acc.length < sizeLine ∧ Nx (upd H4 D (.lst (acc ++ [y]))) else Nx H3) := by
  refine lc_acc w [] (fun _ _ => True) (fun i acc A => acc.length = i ∧ ∀ (k : Nat) (y : V), acc[k]? = some y → R k y A) hD (by simp) (fun _ _ _ _ => trivial) trivial ⟨rfl, fun k y e => by simp at e⟩ (fun H a => hG H a.same) ?_ fun H acc a m e ⟨p1, p2⟩ => hd H acc a.same e p1 p2
  intro i x H H' acc hi a m e ⟨p1, p2⟩ y Kt Kf kt _
  obtain ⟨rfl, ex⟩ := y
  refine ⟨?_, ?_⟩
  · show ((σ.set j none).set j _).set j none = σ.set j none
    rw [List.set_set, List.set_set]
  · show if true = true then te ((σ.set j none).set j (some x)) H' Kt else Kf H'
    refine iteT (hs i x H' ex a.same ⟨acc, e⟩ Kt fun y H4 b1 b3 => kt y H4 (Same_sm b1) (by omega) trivial ⟨by simp [p1], fun k z ez => ?_⟩)
    have sm : Same (off (D :: []) H') (off (D :: []) H4) := Sm.off fun b u nb h => b1 b u h
    rcases Nat.lt_or_ge k acc.length with hk | hk
    · rw [List.getElem?_append_left hk] at ez
      exact hR k z _ _ sm (p2 k z ez)
    · rw [List.getElem?_append_right hk] at ez
      have hk2 : k - acc.length = 0 := by
        rcases Nat.eq_zero_or_pos (k - acc.length) with q | q
        · exact q
        · rw [List.getElem?_eq_none (show [y].length ≤ k - acc.length from q)] at ez
          cases ez
      rw [hk2] at ez
      have e1 : y = z := Option.some.inj ez
      have e2 : k = i := by omega
      rw [← e1, e2]
      exact b3
end
/-! ### little helps -/
theorem u65 {k : Nat} {A : Around} (r : Room k A) : A.units + 65 < cLine := by have := r.un; omega
theorem iteDT {p A B : Prop} [Decidable p] (h : p) (a : A) : if decide p = true then A else B := by
  rw [if_pos (decide_eq_true h)]
  exact a
theorem iteDF {p A B : Prop} [Decidable p] (h : ¬ p) (b : B) : if decide p = true then A else B := by
  rw [if_neg (by simpa using h)]
  exact b
theorem iteND {p A B : Prop} [Decidable p] (h : ¬ p) (a : A) : if (!decide p) = true then A else B := by
  rw [if_pos (by simpa using h)]
  exact a
theorem iteE {c : Bool} {A B : Prop} (b : Bool) (e : c = b) (h : if b = true then A else B) : if c = true then A else B := by
  rw [e]
  exact h
/-- a tuple is no list -/
theorem tup_off {K : PySem.W.Frag} {H : Hp} {p D : Addr} {xs zs : List V} (h : SqT K H p xs) (e : H D = some (.lst zs)) : SqT K (off [D] H) p xs := by
  have key : ∀ u, H p = some u → (∀ zs, u ≠ .lst zs) → off [D] H p = some u := fun u q n => by
    rw [off_out (fun m => ?_)]
    · exact q
    · have e2 : p = D := by simpa using m
      rw [e2, e] at q
      exact n _ (Option.some.inj q).symm
  rcases h with (h | ⟨o, h⟩) | h
  · exact .inl (.inl (key _ h fun _ q => nomatch q))
  · exact .inl (.inr ⟨o, key _ h fun _ q => nomatch q⟩)
  · exact .inr h
theorem TupAt.off {K : PySem.W.Frag} {H : Hp} {v : V} {D : Addr} {xs zs : List V} (h : TupAt K H v xs) (e : H D = some (.lst zs)) : TupAt K (Bx.off [D] H) v xs := by
  obtain ⟨p, rfl, h⟩ := h
  exact ⟨p, rfl, tup_off h e⟩
theorem paired_of {α β : Type} {R : α → β → Prop} : ∀ {xs : List α} {ys : List β}, xs.length = ys.length → (∀ (i : Nat) (x : α) (y : β), xs[i]? = some x → ys[i]? = some y → R x y) → Paired R xs ys
  | [], [], _, _ => .nil
  | [], _ :: _, h, _ => by simp at h
  | _ :: _, [], h, _ => by simp at h
  | x :: xs, y :: ys, h, k => .cons (k 0 x y rfl rfl) (paired_of (by simpa using h) fun i a b ha hb => k (i + 1) a b (by simpa using ha) (by simpa using hb))
theorem paired_app {α β : Type} {R : α → β → Prop} {xs zs : List α} {ys ws : List β} (h : Paired R xs ys) (k : Paired R zs ws) : Paired R (xs ++ zs) (ys ++ ws) := by
  induction h with
  | nil => exact k
  | cons r _ ih => exact .cons r ih
theorem all_true {acc : List V} (h : ∀ (i : Nat) (y : V), acc[i]? = some y → y = .bl true) : acc = (List.replicate acc.length true).map V.bl := by
  refine List.ext_getElem? fun i => ?_
  rw [List.getElem?_map, List.getElem?_replicate]
  split
  · rename_i hi
    rw [List.getElem?_eq_getElem hi, h i _ (List.getElem?_eq_getElem hi)]
    rfl
  · rename_i hi
    rw [List.getElem?_eq_none (by omega)]
    rfl
theorem rep_all (n : Nat) : (List.replicate n true).all id = true := by simp
/-- told item by item -/
theorem acc_is {acc : List V} {α : Type} {xs : List α} (f : α → V) (hl : acc.length = xs.length) (h : ∀ (i : Nat) (y : V), acc[i]? = some y → ∀ x, xs[i]? = some x → y = f x) : acc = xs.map f := by
  refine List.ext_getElem? fun i => ?_
  rw [List.getElem?_map]
  rcases Nat.lt_or_ge i acc.length with hi | hi
  · rw [List.getElem?_eq_getElem hi, List.getElem?_eq_getElem (show i < xs.length by omega), h i _ (List.getElem?_eq_getElem hi) _ (List.getElem?_eq_getElem (show i < xs.length by omega))]
    rfl
  · rw [List.getElem?_eq_none hi, List.getElem?_eq_none (by omega)]
    rfl
end Bx
set_option Elab.async false
set_option linter.all false
set_option maxRecDepth 100000
/-! BxK: rules with the written part named: within a comprehension its block's own must not stand in the reading. -/
namespace Bx
open PySem PySem.Spec PyProof.Rows L2
section
variable {X : Cx}
theorem ix_tupK (K : PySem.W.Frag) (hK : X.K = K := by rfl) : IxR X (rIxT K) := by
  subst hK
  exact ix_tup
theorem ix_listK (K : PySem.W.Frag) (hK : X.K = K := by rfl) : IxR X (rIxL K) := by
  subst hK
  exact ix_list
theorem op_in_seqK (K : PySem.W.Frag) (hK : X.K = K := by rfl) : OpR X (compareOp .In) (rIn K false) := by
  subst hK
  exact op_in_seq
theorem op_notIn_seqK (K : PySem.W.Frag) (hK : X.K = K := by rfl) : OpR X (compareOp .NotIn) (rIn K true) := by
  subst hK
  exact op_notIn_seq
theorem call_isiK (K : PySem.W.Frag) (hK : X.K = K := by rfl) : CallR X (.builtin "isinstance") (rIsi K) := by
  subst hK
  exact call_isi
theorem op_catAK (K : PySem.W.Frag) (hK : X.K = K := by rfl) : OpR X (binaryOp .Add) (rCatA K) := by
  subst hK
  exact op_catA
theorem sl_tupAK (K : PySem.W.Frag) (hK : X.K = K := by rfl) : SlR X (rSlA K) := by
  subst hK
  exact sl_tupA
theorem sl_listK (K : PySem.W.Frag) (hK : X.K = K := by rfl) : SlR X (rSlL K) := by
  subst hK
  exact sl_list
theorem call_len_seqK (K : PySem.W.Frag) (hK : X.K = K := by rfl) : CallR X (.builtin "len") (fun xs H Q => ∃ p ys, xs = [.ref p] ∧ (SqL K H p ys ∨ SqT K H p ys) ∧ Q (.int ys.length) H) := by
  subst hK
  exact call_len_seq
theorem call_list_ofK (K : PySem.W.Frag) (hK : X.K = K := by rfl) : CallR X (.type "list") (fun xs H Q => ∃ p ys, xs = [.ref p] ∧ (SqL K H p ys ∨ SqT K H p ys) ∧ ∀ l, H l = none → Q (.ref l) (upd H l (.lst ys))) := by
  subst hK
  exact call_list_of
theorem call_tuple_ofK (K : PySem.W.Frag) (hK : X.K = K := by rfl) : CallR X (.type "tuple") (fun xs H Q => ∃ p ys, xs = [.ref p] ∧ ((SqL K H p ys ∧ ∀ l, H l = none → Q (.ref l) (upd H l (.tup ys))) ∨ (SqT K H p ys ∧ Q (.ref p) H))) := by
  subst hK
  exact call_tuple_of
theorem cr_allK (K : PySem.W.Frag) (hc : X.calm = true) (hK : X.K = K := by rfl) : CallR X (.builtin "all") (rAll K) := by
  subst hK
  exact cr_all hc
theorem cr_maxK (K : PySem.W.Frag) (hc : X.calm = true) (hK : X.K = K := by rfl) : CallR X (.builtin "max") (rMax K) := by
  subst hK
  exact cr_max hc
theorem cr_sortTRK {b : Bool} (K : PySem.W.Frag) (hK : X.K = K := by rfl) : CallRK X (.builtin "sorted") [Str.ofString "reverse"] (rSortTR K b) := by
  subst hK
  exact cr_sortTR
theorem cr_sortTIK (K : PySem.W.Frag) (hK : X.K = K := by rfl) : CallR X (.builtin "sorted") (rSortTI K) := by
  subst hK
  exact cr_sortTI
theorem cr_sortTSK (K : PySem.W.Frag) (hK : X.K = K := by rfl) : CallR X (.builtin "sorted") (rSortTS K) := by
  subst hK
  exact cr_sortTS
theorem cr_sortedSK (K : PySem.W.Frag) (hK : X.K = K := by rfl) : CallR X (.builtin "sorted") (rSortedS K) := by
  subst hK
  exact cr_sortedS
theorem cr_sortedRevK {b : Bool} (K : PySem.W.Frag) (hK : X.K = K := by rfl) : CallRK X (.builtin "sorted") [Str.ofString "reverse"] (rSortedKw K b [.bl b]) := by
  subst hK
  exact cr_sortedRev
theorem pe_fldK {e : Expr} {f : Str} {pos : Pos} {ta : TE} (K : PySem.W.Frag) (he : PE X e ta) (hb : attributeBase e f X.env (eval e X.env) = eval e X.env) (hK : X.K = K := by rfl) : PE X (.Attribute e f pos) (tFld K ta f) := by
  subst hK
  exact pe_fld he hb
theorem pg_tupK {es : List Expr} {k : Nat} {t : TGs} {pos : Pos} (K : PySem.W.Frag) (n : Nat) (hc : X.calm = true) (h : PGs X es t) (h1 : (assignEach es X.env).length = n := by rfl) (h2 : (assignEach es X.env).findIdx? (·.1) = none := by rfl) (hK : X.K = K := by rfl) : PG X (.Tuple es k pos) (gTup K n t) := by
  subst hK
  exact pg_tup hc h h1 h2
theorem pe_bmK {T id : String} {name : Str} {r : V → List V → Hp → VK → Prop} {o e : Expr} {es : List Expr} {to : TE} {t : TA} {apos cpos : Pos} (K : PySem.W.Frag) (pa : PlainAttrs T) (slot : Slot T name id) (hty : typeOf (.builtin id) = pure (.type "method_descriptor")) (hm : MtR X id r) (ho : PE X o to) (ha : PA X (e :: es) t)
    (h1 : attributeBase o name X.env (eval o X.env) = eval o X.env := by rfl)
    (h2 : ((backTo cpos (starEach (e :: es) X.env)).all (fun x => !x.1) && (backToKw cpos (keywordEach [] X.env)).all (fun x => x.1.isSome)
      && decide ((e :: es).length + ([] : List Keyword).length + (if ([] : List Keyword).isEmpty then 0 else 1) < 30)) = true := by rfl)
    (h3 : (apos.endLine == cpos.line) = true := by rfl) (h4 : starEach (e :: es) X.env = (false, eval e X.env) :: starEach es X.env := by rfl) (h5 : (backTo cpos (starEach es X.env)).any (·.1) = false := by rfl) (hK : X.K = K := by rfl) :
    PE X (.Call (.Attribute o name apos) (e :: es) [] cpos) (tBM K T r to t) := by
  subst hK
  exact pe_bm pa slot hty hm ho ha h1 h2 h3 h4 h5
end
end Bx
set_option Elab.async false
set_option linter.all false
set_option maxRecDepth 100000
set_option maxHeartbeats 4000000
/-! BxD: words. -/
namespace Bx
open PySem PySem.Spec PyProof.Rows L2
section
variable {P : Program} {w : World} {K : PySem.W.Frag} {mg : Str → Option Value} {base : Heap}
/-- isinstance(x, T), T a built-in class -/
theorem isi_ty {H : Hp} {Q : VK} {x : V} {t n : String} {b : Bool} (ty : TyX K H x (.type t)) (h : kitB t n = some b) (q : Q (.bl b) H) : rIsi K [x, .ty n] H Q := ⟨x, _, _, _, b, rfl, .ty n, ty, kit_ty h, q⟩
/-- a whole number within bounds: told by comparing -/
def spIsWhole : Sp := fun vs H Q _ => ∃ i lo hi : Int, vs = [.int i, .int lo, .int hi] ∧ Q (.bl (decide (lo ≤ i) && decide (i ≤ hi))) H
theorem sc_is_whole : FnScope ["thing", "low", "high"] ["thing", "low", "high"] (defScope s_is_whole) := ⟨rfl, rfl, rfl, by decide +kernel, rfl, by decide +kernel, by decide +kernel⟩
theorem F_is_whole (T : Env w K mg) : Fx P w K mg base "is_whole" 1 ["thing", "low", "high"] spIsWhole := by
  obtain ⟨fd, F⟩ := T.d_is_whole
  refine ⟨_, fd, T.glo_is_whole, F.kp, F.bindsN fun _ _ _ _ _ _ us hl => match us, hl with | [_, _, _], _ => rfl, ?_⟩
  refine F.ok sc_is_whole (fun vs H Q E h => ?_) (fun cdv A outer s H vs Q E hr h => ?_)
  · obtain ⟨i, lo, hi, rfl, _⟩ := h
    rfl
  · obtain ⟨i, lo, hi, rfl, k⟩ := h
    refine ⟨_, PSs.nox (pss_one (ps_ret (pe_and (pe_callB call_isi (by rfl) T.free_isinstance (by decide +kernel) (pa_cons (pv 0) (pa_cons (pe_bltn (v := .ty "int") (u := .type "int") (by rfl) T.free_int (by decide +kernel) rfl) pa_nil))) (pe_and (pe_not (pe_callB call_isi (by rfl) T.free_isinstance (by decide +kernel) (pa_cons (pv 0) (pa_cons (pe_bltn (v := .ty "bool") (u := .type "bool") (by rfl) T.free_bool (by decide +kernel) rfl) pa_nil)))) (pe_one (pe_chain op_le op_le (pv 1) (pv 0) (pv 2))))))), ?_⟩
    refine ⟨_, rfl, _, _, .type "int", .type "int", true, rfl, .ty _, .base (.int _), kit_ty (by decide +kernel), _, rfl, iteT ⟨_, rfl, _, _, .type "int", .type "bool", false, rfl, .ty _, .base (.int _), kit_ty (by decide +kernel), _, rfl, _, rfl, iteT ?_⟩⟩
    refine ⟨_, rfl, _, rfl, _, _, rfl, rfl, _, rfl, ?_⟩
    cases h1 : decide (lo ≤ i) with
    | false =>
      rw [h1] at k
      exact iteF k
    | true =>
      rw [h1] at k
      exact iteT ⟨_, rfl, _, _, rfl, rfl, k⟩
/-! ### names -/
def letters : Str := "abcdefghijklmnopqrstuvwxyz"
def isName (x : Str) : Prop := 1 ≤ x.length ∧ x.length ≤ 8 ∧ ∀ c ∈ x.cps.toList, c ∈ letters.cps.toList
def spIsName : Sp := fun vs H Q _ => ∃ x : Str, vs = [.str x] ∧ isName x ∧ ∀ H', Same H H' → Q (.bl true) H'
theorem sc_is_name : FnScope ["thing", "sign"] ["thing"] (defScope s_is_name) := ⟨rfl, rfl, rfl, by decide +kernel, rfl, by decide +kernel, by decide +kernel⟩
theorem F_is_name (T : Env w K mg) : Fx P w K mg base "is_name" 1 ["thing"] spIsName := by
  obtain ⟨fd, F⟩ := T.d_is_name
  refine ⟨_, fd, T.glo_is_name, F.kp, F.bindsN fun _ _ _ _ _ _ us hl => match us, hl with | [_], _ => rfl, ?_⟩
  refine F.ok sc_is_name (fun vs H Q E h => ?_) (fun cdv A outer s H vs Q E hr h => ?_)
  · obtain ⟨x, rfl, _⟩ := h
    rfl
  · obtain ⟨x, rfl, hx, k⟩ := h
    refine ⟨_, PSs.nox (pss_cons (ps_if (PW.pt (pw_or (pt_not (pt_val (pe_callB call_isi (by rfl) T.free_isinstance (by decide +kernel) (pa_cons (pv 0) (pa_cons (pe_bltn (v := .ty "str") (u := .type "str") (by rfl) T.free_str (by decide +kernel) rfl) pa_nil))))) (pw_or1 (pt_not (pt_chain op_le op_le pe_int (pe_callB call_len_str (by rfl) T.free_len (by decide +kernel) (pa_cons (pv 0) pa_nil)) pe_int))))) (pss_one (ps_ret pe_bl)) pss_nil) (pss_one (ps_ret (pe_callB (cr_all rfl) (by rfl) T.free_all (by decide +kernel) (pa_cons (pe_lc (own := [("sign", 1)]) (g := gName 1) (tt := tYes) (by rfl) sc_is_name.nd (pi_str (pv 0)) (blkOk_by (own := [("sign", 1)]) (N := ["thing", "sign"]) (sc := defScope s_is_name) (by decide +kernel)) (fun _ _ _ _ _ => (pg_name (i := 1) sc_is_name.nd rfl (Or.inl rfl))) (fun _ _ _ _ _ => pts_nil) (fun _ _ _ _ _ => (pe_cmpR op_in_sign (pv 1) (C8.pe_gc rfl T.str_LETTERS) (by rfl)))) pa_nil))))), ?_⟩
    obtain ⟨h1, h8, hl⟩ := hx
    refine ⟨_, rfl, _, _, .type "str", .type "str", true, rfl, .ty _, .base (.str _), kit_ty (by decide +kernel), _, rfl, iteF ⟨_, rfl, _, rfl, Nat.le_trans h8 (by decide), ?_⟩⟩
    refine ⟨_, _, rfl, rfl, _, rfl, iteDT (by omega) ⟨_, _, rfl, rfl, _, rfl, iteNS (by omega) ?_⟩⟩
    refine ⟨_, rfl, x, rfl, fun D hD => lc_map walk_str [] (fun _ _ => True) (fun i => .str ⟨#[(x.cps[i]?).getD 0]⟩) (fun _ y _ => y = .bl true) (fun i A x' B hi y => ?_) hD (by simp) (Nat.le_trans h8 (by decide)) (fun _ _ _ _ => trivial) trivial (fun _ _ _ _ _ h => h) (fun _ _ => trivial) (fun i A hi a _ Kt kt => ?_) (fun A acc a _ e hl hb => ?_)⟩
    · obtain ⟨rfl, c, e1, rfl⟩ := y
      exact ⟨rfl, by rw [e1]; rfl⟩
    · refine ⟨_, rfl, _, _, rfl, rfl, kt _ _ Sm.refl trivial ?_⟩
      have hc : (x.cps[i]?).getD 0 ∈ letters.cps.toList := by
        have hi2 : i < x.cps.size := hi
        rw [Array.getElem?_eq_getElem hi2]
        exact hl _ (by simp)
      show V.bl (decide _) = _
      exact congrArg V.bl (decide_eq_true hc)
    · rw [all_true hb] at e
      refine ⟨D, _, rfl, SqL.of e, ?_⟩
      rw [rep_all]
      exact k _ a.same
/-! ### orders -/
theorem ty_tup {H : Hp} {a : Addr} {xs : List V} (h : SqT K H a xs) : TyX K H (.ref a) (.type "tuple") := by
  rcases h with (h | ⟨o, h⟩) | ⟨o, its, n, h, hc, _⟩
  · exact .base (.tup h)
  · exact .fTuple h
  · exact .kTuple h hc
theorem more_ands {a b : Bool} (h : (a && b) = true) : a = true ∧ b = true := He.ba h
theorem Env.orders (T : Env w K mg) (H : Hp) : SqT K H (He.ga K "ORDERS") [.ref (ordAd K 0), .ref (ordAd K 1), .ref (ordAd K 2), .ref (ordAd K 3), .ref (ordAd K 4), .ref (ordAd K 5)] := tupV_ok (more_ands T.more).1 H
theorem Env.ord (T : Env w K mg) (H : Hp) : ∀ o : Fin 6, SqT K H (ordAd K o) (oV o) := by
  have h := (more_ands T.more).2
  obtain ⟨h0, h⟩ := more_ands h
  obtain ⟨h1, h⟩ := more_ands h
  obtain ⟨h2, h⟩ := more_ands h
  obtain ⟨h3, h⟩ := more_ands h
  obtain ⟨h4, h⟩ := more_ands h
  obtain ⟨h5, h⟩ := more_ands h
  intro o
  match o with
  | 0 => exact tupV_ok h0 H
  | 1 => exact tupV_ok h1 H
  | 2 => exact tupV_ok h2 H
  | 3 => exact tupV_ok h3 H
  | 4 => exact tupV_ok h4 H
  | 5 => exact tupV_ok h5 H
theorem Env.ordK (T : Env w K mg) : ∀ o : Fin 6, ∃ ob, K.lookup (ordAd K o) = some ob ∧ ob.cls = .type "tuple" ∧ ob.dict = none := by
  have h := (more_ands T.more).2
  obtain ⟨h0, h⟩ := more_ands h
  obtain ⟨h1, h⟩ := more_ands h
  obtain ⟨h2, h⟩ := more_ands h
  obtain ⟨h3, h⟩ := more_ands h
  obtain ⟨h4, h⟩ := more_ands h
  obtain ⟨h5, h⟩ := more_ands h
  have key : ∀ {a : Addr} {vs : List V}, tupV K a vs = true → ∃ ob, K.lookup a = some ob ∧ ob.cls = .type "tuple" ∧ ob.dict = none := fun z => by
    obtain ⟨o, _, _, z1, z2, z3, _⟩ := tupV_all z
    exact ⟨o, z1, z2, z3⟩
  intro o
  match o with
  | 0 => exact key h0
  | 1 => exact key h1
  | 2 => exact key h2
  | 3 => exact key h3
  | 4 => exact key h4
  | 5 => exact key h5
theorem Env.labels (T : Env w K mg) (H : Hp) : SqT K H (He.ga K "LABELS") [.str "alone", .str "top", .str "upright"] := by
  have h := (more_ands T.more).2
  iterate 6 (have h := (more_ands h).2)
  exact tupV_ok (more_ands h).1 H
theorem Env.insS (T : Env w K mg) : C8.InsC K (He.ga K "Sides") := by
  have h := (more_ands T.more).2
  iterate 8 (have h := (more_ands h).2)
  exact insB_ok T.cls_Sides (more_ands h).1
theorem Env.insP (T : Env w K mg) : C8.InsC K (He.ga K "Parcel") := by
  have h := (more_ands T.more).2
  iterate 8 (have h := (more_ands h).2)
  exact insB_ok T.cls_Parcel (more_ands h).2
theorem Env.formsV (T : Env w K mg) : He.valsB K (He.ga K "FORMS") [("one", .glo "is_parcel_turned"), ("by", .glo "are_two_by")] = true := by
  have h := (more_ands T.more).2
  iterate 7 (have h := (more_ands h).2)
  exact (more_ands h).1
def oD (o : Fin 6) : PyData := .tuple [.int ((oAt o 0).val : Int), .int ((oAt o 1).val : Int), .int ((oAt o 2).val : Int)]
theorem ord_in : ∀ o : Fin 6, ([oD 0, oD 1, oD 2, oD 3, oD 4, oD 5].any fun z => PyData.eqv z (oD o)) = true := by decide +kernel
def spIsOrder (K : PySem.W.Frag) : Sp := fun vs H Q _ => ∃ (v : V) (o : Fin 6), vs = [v] ∧ OrdAt K H v o ∧ ∀ H', Same H H' → Q (.bl true) H'
theorem sc_is_order : FnScope ["thing", "number"] ["thing"] (defScope s_is_order) := ⟨rfl, rfl, rfl, by decide +kernel, rfl, by decide +kernel, by decide +kernel⟩
theorem F_is_order (T : Env w K mg) : Fx P w K mg base "is_order" 2 ["thing"] (spIsOrder K) := by
  obtain ⟨fd, F⟩ := T.d_is_order
  have F_is_whole := F_is_whole (P := P) (base := base) T
  refine ⟨_, fd, T.glo_is_order, F.kp, F.bindsN fun _ _ _ _ _ _ us hl => match us, hl with | [_], _ => rfl, ?_⟩
  refine F.ok sc_is_order (fun vs H Q E h => ?_) (fun cdv A outer s H vs Q E hr h => ?_)
  · obtain ⟨v, o, rfl, _⟩ := h
    rfl
  · obtain ⟨v, o, rfl, hv, k⟩ := h
    refine ⟨_, PSs.nox (pss_cons (ps_if (PW.pt (pw_or (pt_not (pt_val (pe_callB call_isi (by rfl) T.free_isinstance (by decide +kernel) (pa_cons (pv 0) (pa_cons (pe_bltn (v := .ty "tuple") (u := .type "tuple") (by rfl) T.free_tuple (by decide +kernel) rfl) pa_nil))))) (pw_or1 (pt_cmpR op_ne (pe_callB call_len_seq (by rfl) T.free_len (by decide +kernel) (pa_cons (pv 0) pa_nil)) pe_int (nomark _))))) (pss_one (ps_ret pe_bl)) pss_nil) (pss_one (ps_ret (pe_and (pe_callB (cr_all rfl) (by rfl) T.free_all (by decide +kernel) (pa_cons (pe_lc (own := [("number", 1)]) (g := gName 1) (tt := tYes) (by rfl) sc_is_order.nd (pi_tup (pv 0)) (blkOk_by (own := [("number", 1)]) (N := ["thing", "number"]) (sc := defScope s_is_order) (by decide +kernel)) (fun _ _ _ _ _ => (pg_name (i := 1) sc_is_order.nd rfl (Or.inl rfl))) (fun _ _ _ _ _ => pts_nil) (fun _ _ _ _ _ => (pe_fx F_is_whole (hr.mono (by decide)) rfl (pa_cons (pv 1) (pa_cons pe_int (pa_cons pe_int pa_nil)))))) pa_nil)) (pe_one (pe_cmpR (op_inT (u65 hr)) (pv 0) (C8.pe_gc (v := .ref (He.ga K "ORDERS")) rfl ⟨_, T.glo_ORDERS, rfl⟩) (by rfl))))))), ?_⟩
    obtain ⟨p, rfl, hp⟩ := hv
    refine ⟨_, rfl, _, _, .type "tuple", .type "tuple", true, rfl, .ty _, ty_tup hp, kit_ty (by decide +kernel), _, rfl, iteF ?_⟩
    refine ⟨_, rfl, p, _, rfl, .inr hp, rfl, _, rfl, ?_⟩
    refine iteF ⟨_, rfl, p, rfl, ⟨_, hp⟩, fun D hD => lc_map (walk_tup (xs := oV o)) [] (fun _ _ => True) (fun i => ((oV o)[i]?).getD .non) (fun _ y _ => y = .bl true) (fun i A x' B hi y => ?_) hD (by simp) (show 3 ≤ sizeLine by decide) (fun _ _ _ _ => trivial) trivial (fun _ _ _ _ _ h => h) (fun A a => Same_tup a.same hp) (fun i A hi a _ Kt kt => ?_) (fun A acc a _ e hl hb => ?_)⟩
    · obtain ⟨rfl, e1⟩ := y
      exact ⟨rfl, by rw [e1]; rfl⟩
    · have hi3 : i < 3 := hi
      have e1 : ∃ z : Int, ((oV o)[i]?).getD .non = .int z ∧ 0 ≤ z ∧ z ≤ 2 := by
        have b := fun k => (oAt o k).isLt
        match i, hi3 with
        | 0, _ => exact ⟨_, rfl, by omega, by have := b 0; omega⟩
        | 1, _ => exact ⟨_, rfl, by omega, by have := b 1; omega⟩
        | 2, _ => exact ⟨_, rfl, by omega, by have := b 2; omega⟩
      obtain ⟨z, e1, z0, z2⟩ := e1
      rw [e1]
      refine ⟨_, rfl, _, _, _, rfl, kt _ _ Sm.refl trivial ?_⟩
      rw [decide_eq_true z0, decide_eq_true z2]
      rfl
    · rw [all_true hb] at e
      refine ⟨D, _, rfl, SqL.of e, ?_⟩
      rw [rep_all]
      have hp2 := Same_tup a.same hp
      refine ⟨_, rfl, iteT ⟨_, rfl, oD o, [oD 0, oD 1, oD 2, oD 3, oD 4, oD 5], .tup hp2 (.cons (.int _) (.cons (.int _) (.cons (.int _) .nil))), .tup (T.orders A) (.cons (.tup (T.ord A 0) (.cons (.int _) (.cons (.int _) (.cons (.int _) .nil)))) (.cons (.tup (T.ord A 1) (.cons (.int _) (.cons (.int _) (.cons (.int _) .nil)))) (.cons (.tup (T.ord A 2) (.cons (.int _) (.cons (.int _) (.cons (.int _) .nil)))) (.cons (.tup (T.ord A 3) (.cons (.int _) (.cons (.int _) (.cons (.int _) .nil)))) (.cons (.tup (T.ord A 4) (.cons (.int _) (.cons (.int _) (.cons (.int _) .nil)))) (.cons (.tup (T.ord A 5) (.cons (.int _) (.cons (.int _) (.cons (.int _) .nil)))) .nil)))))), rfl, rfl, ?_⟩⟩
      rw [ord_in o]
      exact k _ a.same
end
end Bx
set_option Elab.async false
set_option linter.all false
set_option maxRecDepth 100000
set_option maxHeartbeats 4000000
/-! BxE: Sides. -/
namespace Bx
open PySem PySem.Spec PyProof.Rows L2
/-! ### falling triples -/
def T3.desc (t : T3) : T3 := ⟨max (max t.x t.y) t.z, t.x + t.y + t.z - max (max t.x t.y) t.z - min (min t.x t.y) t.z, min (min t.x t.y) t.z⟩
theorem perm_sum {a b : List Int} (h : a.Perm b) : a.sum = b.sum := by
  induction h with
  | nil => rfl
  | cons x _ ih => simp only [List.sum_cons, ih]
  | swap x y l =>
    simp only [List.sum_cons]
    omega
  | trans _ _ h1 h2 => exact h1.trans h2
theorem perm3_sum {ns : List Int} {a b c : Int} (h : ns.Perm [a, b, c]) : ∃ x y z, ns = [x, y, z] ∧ x + y + z = a + b + c ∧ (∀ u, u = x ∨ u = y ∨ u = z ↔ u = a ∨ u = b ∨ u = c) := by
  have hl := h.length_eq
  match ns, hl with
  | [x, y, z], _ =>
    refine ⟨x, y, z, rfl, ?_, fun u => ?_⟩
    · have hs : ([x, y, z] : List Int).sum = ([a, b, c] : List Int).sum := perm_sum h
      simp at hs
      omega
    · have := h.mem_iff (a := u)
      simpa using this
theorem desc_of {ns : List Int} {t : T3} (h : ns.Perm t.l) (o : OrdB true ns) : ns = t.desc.l := by
  obtain ⟨x, y, z, rfl, hs, hm⟩ := perm3_sum h
  have o2 : x ≥ y ∧ x ≥ z ∧ y ≥ z := by
    simp [OrdB] at o
    omega
  have h1 := (hm x).mp (.inl rfl)
  have h2 := (hm z).mp (.inr (.inr rfl))
  have k1 := (hm t.x).mpr (.inl rfl)
  have k2 := (hm t.y).mpr (.inr (.inl rfl))
  have k3 := (hm t.z).mpr (.inr (.inr rfl))
  have ex : x = max (max t.x t.y) t.z := by omega
  have ez : z = min (min t.x t.y) t.z := by omega
  have ey : y = t.x + t.y + t.z - max (max t.x t.y) t.z - min (min t.x t.y) t.z := by omega
  show [x, y, z] = [max (max t.x t.y) t.z, t.x + t.y + t.z - max (max t.x t.y) t.z - min (min t.x t.y) t.z, min (min t.x t.y) t.z]
  rw [← ex, ← ez] at *
  rw [← ey]

/-! ### where sides stand -/
section
variable (K : PySem.W.Frag) (H : Hp)
def SidesAt (v : V) (t : T3) : Prop := ∃ p dx q, v = .ref p ∧ H p = some (.ins (CS K) dx [("three", .ref q)]) ∧ SqT K H q t.v
end
theorem SidesAt.mono {K : PySem.W.Frag} {H H' : Hp} (S : Same H H') {v : V} {t : T3} (h : SidesAt K H v t) : SidesAt K H' v t := by
  obtain ⟨p, dx, q, h1, h2, h3⟩ := h
  exact ⟨p, dx, q, h1, S _ _ h2, Same_tup S h3⟩
theorem bnd {lo i hi : Int} (h1 : lo ≤ i) (h2 : i ≤ hi) : (decide (lo ≤ i) && decide (i ≤ hi)) = true := by rw [decide_eq_true h1, decide_eq_true h2]; rfl
def okN (i : Int) : Prop := 1 ≤ i ∧ i ≤ 100000
def okT (t : T3) : Prop := okN t.x ∧ okN t.y ∧ okN t.z
theorem okT.get {t : T3} (h : okT t) : ∀ k : Fin 3, okN (t.get k)
  | 0 => h.1
  | 1 => h.2.1
  | 2 => h.2.2
theorem okT.turn {t : T3} (h : okT t) (o : Fin 6) : okT (t.turn o) := ⟨h.get _, h.get _, h.get _⟩
theorem v3_at {t : T3} (h : okT t) {i : Nat} {x : V} (e : t.v[i]? = some x) : ∃ z, t.l[i]? = some z ∧ x = .int z ∧ okN z := by
  match i, e with
  | 0, e => exact ⟨t.x, rfl, (Option.some.inj e).symm, h.1⟩
  | 1, e => exact ⟨t.y, rfl, (Option.some.inj e).symm, h.2.1⟩
  | 2, e => exact ⟨t.z, rfl, (Option.some.inj e).symm, h.2.2⟩
  | _ + 3, e => cases e
theorem log_small {z : Int} (h : 0 ≤ z ∧ z ≤ 10 ^ 200) : z.natAbs.log2 < 1920 := by
  by_cases hz : z.natAbs = 0
  · rw [hz]
    decide
  · rw [Nat.log2_lt hz]
    have : z.natAbs ≤ 10 ^ 200 := by omega
    exact Nat.lt_of_le_of_lt this (by decide)
theorem dig_len {z : Int} (h : okN z) : (Str.ofString (toString z)).length ≤ 6 := toString_length_le (by have := h.1; omega) (by decide) (by have := h.2; omega)
section
variable {P : Program} {w : World} {K : PySem.W.Frag} {mg : Str → Option Value} {base : Heap}
def spSInit (K : PySem.W.Frag) : Sp := fun vs H Q _ => ∃ (p dx : Addr) (t : T3), vs = [.ref p, .int t.x, .int t.y, .int t.z] ∧ okT t ∧ H p = some (.ins (CS K) dx []) ∧ ∀ H' q, Sm [p] H H' → H' p = some (.ins (CS K) dx [("three", .ref q)]) → SqT K H' q t.v → Q .non H'
theorem sc_Sides_init : FnScope ["self", "one", "other", "third", "side"] ["self", "one", "other", "third"] (defScope s_Sides_init) := ⟨rfl, rfl, rfl, by decide +kernel, rfl, by decide +kernel, by decide +kernel⟩
theorem F_Sides_init (T : Env w K mg) : Kx P w K mg base "Sides" (CS K) 2 ["self", "one", "other", "third"] [] (spSInit K) := by
  obtain ⟨fd, F⟩ := T.d_Sides_init
  have F_is_whole := F_is_whole (P := P) (base := base) T
  refine ⟨_, fd, [], T.glo_Sides, T.mkr_Sides, .nil, F.bindsN fun _ _ _ _ _ _ us hl => match us, hl with | [_, _, _, _], _ => rfl, ?_⟩
  refine F.ok sc_Sides_init (fun vs H Q E h => ?_) (fun cdv A outer s H vs Q E hr h => ?_)
  · obtain ⟨p, dx, t, rfl, _⟩ := h
    rfl
  · obtain ⟨p, dx, t, rfl, ht, hp, k⟩ := h
    refine ⟨_, PSs.nox (pss_cons (ps_for PassesOwn.never rfl (pi_tup (pe_tup (pa_cons (pv 1) (pa_cons (pv 2) (pa_cons (pv 3) pa_nil))))) (pg_name (i := 4) sc_Sides_init.nd rfl (Or.inl rfl)) (pss_one (ps_if (pt_not (pt_val (pe_fx F_is_whole (hr.mono (by decide)) rfl (pa_cons (pv 4) (pa_cons pe_int (pa_cons (C8.pe_gc rfl T.int_MOST_SIDE) pa_nil)))))) (pss_one ps_never) pss_nil))) (pss_one (ps_fld (pv 0) (pe_tup (pa_cons (pv 1) (pa_cons (pv 2) (pa_cons (pv 3) pa_nil)))) rfl))), ?_⟩
    refine ⟨_, rfl, _, rfl, _, rfl, (by show 3 ≤ sizeLine; decide), fun q hq => ?_⟩
    refine ⟨q, rfl, ⟨_, SqT.of upd_same⟩, for_it (walk_tup (xs := t.v)) (fun _ σ H' => H' = upd H q (.tup t.v) ∧ ∃ v, σ = [some (.ref p), some (.int t.x), some (.int t.y), some (.int t.z), v]) ⟨rfl, _, rfl⟩ (fun i σ H' _ h => by rw [h.1]; exact SqT.of upd_same) (fun i x σ H1 H2 hi h y => ?_) fun σ H1 h => ?_⟩
    · obtain ⟨rfl, v, rfl⟩ := h
      obtain ⟨rfl, e1⟩ := y
      have e2 : ∃ z : Int, x = .int z ∧ okN z := by
        have hi3 : i < 3 := hi
        match i, hi3 with
        | 0, _ => exact ⟨t.x, (Option.some.inj e1).symm, ht.1⟩
        | 1, _ => exact ⟨t.y, (Option.some.inj e1).symm, ht.2.1⟩
        | 2, _ => exact ⟨t.z, (Option.some.inj e1).symm, ht.2.2⟩
      obtain ⟨z, rfl, z1, z2⟩ := e2
      refine ⟨_, rfl, _, _, _, rfl, _, rfl, iteE false (by rw [bnd z1 z2]; rfl) ⟨rfl, _, rfl⟩⟩
    · obtain ⟨rfl, v, rfl⟩ := h
      refine ⟨_, rfl, _, rfl, _, rfl, (by show 3 ≤ sizeLine; decide), fun q2 hq2 => ⟨_, rfl, p, CS K, dx, [], rfl, (by grind [upd]), T.cls_Sides, T.noat_Sides_three, (by decide), ?_⟩⟩
      exact k _ q2 (fun b u nb hb => by grind [upd]) upd_same (SqT.of (by grind [upd]))
/-- the reading of Sides(a, b, c) -/
theorem make_sides {H : Hp} {Q : VK} {E : XK} {t : T3} (ht : okT t) (k : ∀ v H', Same H H' → SidesAt K H' v t → Q v H') : ∀ x dx, H x = none → H dx = none → dx ≠ x →
    spSInit K (.ref x :: ([.int t.x, .int t.y, .int t.z] ++ [])) (upd (upd H dx (.own x)) x (.ins (CS K) dx [])) (fun v H2 => v = .non ∧ Q (.ref x) H2) E := fun x dx nx ndx nex =>
  ⟨x, dx, t, rfl, ht, upd_same, fun H' q a h1 h2 => ⟨rfl, k _ _ (fun b u hb => a b u (by have := ne_of_none hb nx; simpa using this) (by rw [upd_ne (ne_of_none hb nx), upd_ne (ne_of_none hb ndx)]; exact hb)) ⟨x, dx, q, rfl, h1, h2⟩⟩⟩
/-! ### told, ranked, volume -/
def spTold (K : PySem.W.Frag) : Sp := fun vs H Q _ => ∃ v t, vs = [v] ∧ SidesAt K H v t ∧ ∀ u, T3At K H u t → Q u H
theorem sc_Sides_told : FnScope ["self"] ["self"] (defScope s_Sides_told) := ⟨rfl, rfl, rfl, by decide +kernel, rfl, by decide +kernel, by decide +kernel⟩
theorem F_Sides_told (T : Env w K mg) : Mx P w K mg base (CS K) "told" 1 ["self"] [] (spTold K) := by
  obtain ⟨fd, F⟩ := T.d_Sides_told
  refine ⟨_, fd, [], T.meth_Sides_told, .nil, F.bindsN fun _ _ _ _ _ _ us hl => match us, hl with | [_], _ => rfl, ?_⟩
  refine F.ok sc_Sides_told (fun vs H Q E h => ?_) (fun cdv A outer s H vs Q E hr h => ?_)
  · obtain ⟨v, t, rfl, _⟩ := h
    rfl
  · obtain ⟨v, t, rfl, ⟨p, dx, q, rfl, hp, hq⟩, k⟩ := h
    refine ⟨_, PSs.nox (pss_one (ps_ret (pe_fld (pv 0) (by rfl)))), ?_⟩
    exact ⟨_, rfl, p, _, dx, _, _, rfl, hp, T.cls_Sides, T.noat_Sides_three, rfl, k _ ⟨q, rfl, hq⟩⟩
def spRanked (K : PySem.W.Frag) : Sp := fun vs H Q _ => ∃ v t, vs = [v] ∧ SidesAt K H v t ∧ ∀ u H', Same H H' → T3At K H' u t.desc → Q u H'
theorem sc_Sides_ranked : FnScope ["self"] ["self"] (defScope s_Sides_ranked) := ⟨rfl, rfl, rfl, by decide +kernel, rfl, by decide +kernel, by decide +kernel⟩
theorem F_Sides_ranked (T : Env w K mg) : Mx P w K mg base (CS K) "ranked" 1 ["self"] [] (spRanked K) := by
  obtain ⟨fd, F⟩ := T.d_Sides_ranked
  refine ⟨_, fd, [], T.meth_Sides_ranked, .nil, F.bindsN fun _ _ _ _ _ _ us hl => match us, hl with | [_], _ => rfl, ?_⟩
  refine F.ok sc_Sides_ranked (fun vs H Q E h => ?_) (fun cdv A outer s H vs Q E hr h => ?_)
  · obtain ⟨v, t, rfl, _⟩ := h
    rfl
  · obtain ⟨v, t, rfl, ⟨p, dx, q, rfl, hp, hq⟩, k⟩ := h
    refine ⟨_, PSs.nox (pss_one (ps_ret (pe_callTy call_tuple_of (by rfl) T.free_tuple (by decide +kernel) (pa_cons (pe_callBK (cr_sortTR (b := true)) (by rfl) T.free_sorted (by decide +kernel) (pa_cons (pe_fld (pv 0) (by rfl)) pa_nil) (pk_cons pe_bl pk_nil)) pa_nil)))), ?_⟩
    refine ⟨_, rfl, p, _, dx, _, _, rfl, hp, T.cls_Sides, T.noat_Sides_three, rfl, ?_⟩
    refine ⟨q, t.l, rfl, rfl, hq, (by show 3 < 64; decide), fun ns' l hn ho hl => ?_⟩
    rw [desc_of hn ho]
    refine ⟨l, _, rfl, .inl ⟨SqL.of upd_same, fun u hu => ?_⟩⟩
    exact k _ _ ((same_upd hl).trans (same_upd hu)) ⟨u, rfl, SqT.of upd_same⟩
def spVolume (K : PySem.W.Frag) : Sp := fun vs H Q _ => ∃ v t, vs = [v] ∧ SidesAt K H v t ∧ okT t ∧ Q (.int t.vol) H
theorem sc_Sides_volume : FnScope ["self", "one", "other", "third"] ["self"] (defScope s_Sides_volume) := ⟨rfl, rfl, rfl, by decide +kernel, rfl, by decide +kernel, by decide +kernel⟩
theorem F_Sides_volume (T : Env w K mg) : Mx P w K mg base (CS K) "volume" 1 ["self"] [] (spVolume K) := by
  obtain ⟨fd, F⟩ := T.d_Sides_volume
  refine ⟨_, fd, [], T.meth_Sides_volume, .nil, F.bindsN fun _ _ _ _ _ _ us hl => match us, hl with | [_], _ => rfl, ?_⟩
  refine F.ok sc_Sides_volume (fun vs H Q E h => ?_) (fun cdv A outer s H vs Q E hr h => ?_)
  · obtain ⟨v, t, rfl, _⟩ := h
    rfl
  · obtain ⟨v, t, rfl, ⟨p, dx, q, rfl, hp, hq⟩, ht, k⟩ := h
    refine ⟨_, PSs.nox (pss_cons (ps_asg (pe_fld (pv 0) (by rfl)) (pg_tup (by rfl) (pgs_cons (pg_name (i := 1) sc_Sides_volume.nd rfl (Or.inl rfl)) (pgs_cons (pg_name (i := 2) sc_Sides_volume.nd rfl (Or.inl rfl)) (pgs_cons (pg_name (i := 3) sc_Sides_volume.nd rfl (Or.inl rfl)) pgs_nil))))) (pss_one (ps_ret (pe_op op_mul (pe_op op_mul (pv 1) (pv 2)) (pv 3))))), ?_⟩
    refine ⟨_, rfl, p, _, dx, _, _, rfl, hp, T.cls_Sides, T.noat_Sides_three, rfl, q, _, rfl, hq, rfl, ?_⟩
    obtain ⟨⟨x1, x2⟩, ⟨y1, y2⟩, z1, z2⟩ := ht
    have xy : 0 ≤ t.x * t.y := Int.mul_nonneg (by omega) (by omega)
    have xy2 : t.x * t.y ≤ 100000 * 100000 := Int.mul_le_mul x2 y2 (by omega) (by omega)
    exact ⟨_, _, rfl, _, _, rfl, _, _, rfl, rfl, _, rfl, _, rfl, _, _, rfl, rfl, .inl ⟨by omega, by omega⟩, _, rfl, _, _, rfl, rfl, .inl ⟨by omega, by omega⟩, k⟩
theorem oV_at (t : T3) {o : Fin 6} {i : Nat} {x : V} (e : (oV o)[i]? = some x) : ∃ k : Fin 3, x = .int (k.val : Int) ∧ (t.turn o).l[i]? = some (t.get k) := by
  match i, e with
  | 0, e => exact ⟨oAt o 0, (Option.some.inj e).symm, rfl⟩
  | 1, e => exact ⟨oAt o 1, (Option.some.inj e).symm, rfl⟩
  | 2, e => exact ⟨oAt o 2, (Option.some.inj e).symm, rfl⟩
  | _ + 3, e => cases e
theorem t3_at (t : T3) : ∀ k : Fin 3, atI t.v (k.val : Int) = some (.int (t.get k))
  | 0 => rfl
  | 1 => rfl
  | 2 => rfl
/-! ### as a text -/
def sTxt (t : T3) : Str := Txt.join " x " [Str.ofString (toString t.x), Str.ofString (toString t.y), Str.ofString (toString t.z)]
def spSStr (K : PySem.W.Frag) : Sp := fun vs H Q _ => ∃ v t, vs = [v] ∧ SidesAt K H v t ∧ okT t ∧ ∀ H', Same H H' → Q (.str (sTxt t)) H'
theorem sc_Sides_str : FnScope ["self", "side"] ["self"] (defScope s_Sides_str) := ⟨rfl, rfl, rfl, by decide +kernel, rfl, by decide +kernel, by decide +kernel⟩
theorem F_Sides_str (T : Env w K mg) : Mx P w K mg base (CS K) "__str__" 1 ["self"] [] (spSStr K) := by
  obtain ⟨fd, F⟩ := T.d_Sides_str
  refine ⟨_, fd, [], T.meth_Sides_str, .nil, F.bindsN fun _ _ _ _ _ _ us hl => match us, hl with | [_], _ => rfl, ?_⟩
  refine F.ok sc_Sides_str (fun vs H Q E h => ?_) (fun cdv A outer s H vs Q E hr h => ?_)
  · obtain ⟨v, t, rfl, _⟩ := h
    rfl
  · obtain ⟨v, t, rfl, ⟨p, dx, q, rfl, hp, hq⟩, ht, k⟩ := h
    refine ⟨_, PSs.nox (pss_one (ps_ret (pe_join pe_str (pe_lc (own := [("side", 1)]) (g := gName 1) (tt := tYes) (by rfl) sc_Sides_str.nd (pi_tup (pe_fld (pv 0) (by rfl))) (blkOk_by (own := [("side", 1)]) (N := ["self", "side"]) (sc := defScope s_Sides_str) (by decide +kernel)) (fun _ _ _ _ _ => (pg_name (i := 1) sc_Sides_str.nd rfl (Or.inl rfl))) (fun _ _ _ _ _ => pts_nil) (fun _ _ _ _ _ => (pe_callTy call_str_int (by rfl) T.free_str (by decide +kernel) (pa_cons (pv 1) pa_nil))))))), ?_⟩
    refine ⟨⟨_, rfl⟩, _, rfl, p, _, dx, _, _, rfl, hp, T.cls_Sides, T.noat_Sides_three, rfl, q, rfl, ⟨_, hq⟩, fun D hD => lc_src (walk_tup (xs := t.v)) (fun A a => Same_tup a hq) hD (show 3 ≤ sizeLine by decide)
      (fun i y _ => ∀ z, t.l[i]? = some z → y = .str (Str.ofString (toString z))) (fun _ _ _ _ _ h => h) (fun i x A ex a _ Kt kt => ?_) fun A acc a e hl hb => ?_⟩
    · obtain ⟨z, ez, rfl, hz⟩ := v3_at ht ex
      refine ⟨_, rfl, z, rfl, log_small (by unfold okN at hz; omega), kt _ _ (Same.refl _) fun z' e' => ?_⟩
      rw [ez] at e'
      rw [Option.some.inj e']
    · have e2 := acc_is (xs := t.l) (fun z => V.str (Str.ofString (toString z))) hl fun i y hy x hx => hb i y hy x hx
      refine ⟨_, _, t.l.map fun z => Str.ofString (toString z), rfl, rfl, .inl (SqL.of (by rw [e, e2, List.map_map]; rfl)), ?_, k _ a⟩
      show ([_, _, _] : List Nat).sum + 3 * 3 ≤ 16777216
      have l1 := dig_len ht.1
      have l2 := dig_len ht.2.1
      have l3 := dig_len ht.2.2
      simp only [List.sum_cons, List.sum_nil]
      omega
/-! ### turned -/
def spTurned (K : PySem.W.Frag) : Sp := fun vs H Q _ => ∃ v u t o, vs = [v, u] ∧ SidesAt K H v t ∧ OrdAt K H u o ∧ okT t ∧ ∀ r H', Same H H' → SidesAt K H' r (t.turn o) → Q r H'
theorem sc_Sides_turned : FnScope ["self", "order", "one", "other", "third", "number"] ["self", "order"] (defScope s_Sides_turned) := ⟨rfl, rfl, rfl, by decide +kernel, rfl, by decide +kernel, by decide +kernel⟩
theorem F_Sides_turned (T : Env w K mg) : Mx P w K mg base (CS K) "turned" 4 ["self", "order"] [] (spTurned K) := by
  obtain ⟨fd, F⟩ := T.d_Sides_turned
  have F_is_order := F_is_order (P := P) (base := base) T
  have F_Sides_init := F_Sides_init (P := P) (base := base) T
  refine ⟨_, fd, [], T.meth_Sides_turned, .nil, F.bindsN fun _ _ _ _ _ _ us hl => match us, hl with | [_, _], _ => rfl, ?_⟩
  refine F.ok sc_Sides_turned (fun vs H Q E h => ?_) (fun cdv A outer s H vs Q E hr h => ?_)
  · obtain ⟨v, u, t, o, rfl, _⟩ := h
    rfl
  · obtain ⟨v, u, t, o, rfl, ⟨p, dx, q, rfl, hp, hq⟩, ⟨r, rfl, hor⟩, ht, k⟩ := h
    refine ⟨_, PSs.nox (pss_cons (ps_if (pt_not (pt_val (pe_fx F_is_order (hr.mono (by decide)) rfl (pa_cons (pv 1) pa_nil)))) (pss_one ps_never) pss_nil) (pss_cons (ps_asg (pe_lc (own := [("number", 5)]) (g := gName 5) (tt := tYes) (by rfl) sc_Sides_turned.nd (pi_tup (pv 1)) (blkOk_by (own := [("number", 5)]) (N := ["self", "order", "one", "other", "third", "number"]) (sc := defScope s_Sides_turned) (by decide +kernel)) (fun _ _ _ _ _ => (pg_name (i := 5) sc_Sides_turned.nd rfl (Or.inl rfl))) (fun _ _ _ _ _ => pts_nil) (fun _ _ _ _ _ => (pe_ix (ix_tupK K) (pe_fldK K (pv 0) (by rfl)) (pv 5) (fun _ _ => rfl)))) (pg_lst (by rfl) (pgs_cons (pg_name (i := 2) sc_Sides_turned.nd rfl (Or.inl rfl)) (pgs_cons (pg_name (i := 3) sc_Sides_turned.nd rfl (Or.inl rfl)) (pgs_cons (pg_name (i := 4) sc_Sides_turned.nd rfl (Or.inl rfl)) pgs_nil))))) (pss_one (ps_ret (pe_kx F_Sides_init (hr.mono (by decide)) rfl (pa_cons (pv 2) (pa_cons (pv 3) (pa_cons (pv 4) pa_nil)))))))), ?_⟩
    refine ⟨_, rfl, .ref r, o, rfl, ⟨r, rfl, hor⟩, fun H1 s1 => ⟨_, rfl, iteF ?_⟩⟩
    refine ⟨_, rfl, r, rfl, ⟨_, Same_tup s1 hor⟩, fun D hD => lc_src (walk_tup (xs := oV o)) (fun A a => Same_tup (s1.trans a) hor) hD (show 3 ≤ sizeLine by decide)
      (fun i y _ => ∀ z, (t.turn o).l[i]? = some z → y = .int z) (fun _ _ _ _ _ h => h) (fun i x A ex a _ Kt kt => ?_) fun A acc a e hl hb => ?_⟩
    · obtain ⟨kk, rfl, ek⟩ := oV_at t ex
      refine ⟨_, rfl, p, CS K, dx, _, _, rfl, a _ _ (s1 _ _ hp), T.cls_Sides, T.noat_Sides_three, rfl, _, rfl, q, _, _, _, rfl, rfl, Same_tup (s1.trans a) hq, t3_at t kk, kt _ _ (Same.refl _) fun z' e' => ?_⟩
      rw [ek] at e'
      rw [Option.some.inj e']
    · have e2 := acc_is (xs := (t.turn o).l) V.int hl fun i y hy x hx => hb i y hy x hx
      rw [e2] at e
      refine ⟨D, _, rfl, SqL.of e, rfl, _, _, rfl, _, _, rfl, _, _, rfl, rfl, _, rfl, _, rfl, _, rfl, make_sides (ht.turn o) fun v H' b c => k v H' (s1.trans (a.trans b)) c⟩
end
end Bx
set_option Elab.async false
set_option linter.all false
set_option maxRecDepth 100000
set_option maxHeartbeats 4000000
/-! BxS: str of an own instance, filters, max of a tuple. -/
namespace Bx
open PySem PySem.Spec PyProof.Rows L2
section
variable {X : Cx}
/-- str(o), o an own instance whose class has a __str__ of this promise -/
def rStrOwn (C : Addr) (sp : Sp) : List V → Hp → VK → Prop := fun xs H Q => ∃ a dx fs, xs = [V.ref a] ∧ H a = some (.ins C dx fs) ∧ sp [.ref a] H (fun z H' => ∃ y, z = .str y ∧ Q z H') E0
theorem call_strOwn {C : Addr} {k : Nat} {ps : List Str} {sp : Sp} (F : Mx X.prog X.w X.K X.mg X.base C "__str__" k ps [] sp) (hr : Room (k + 2) X.A) : CallR X (.type "str") (rStrOwn C sp) := by
  intro pins s σ H xs us Q I r h
  obtain ⟨f, fd, ds, hm, hv, hb, hf⟩ := F
  cases hv
  obtain ⟨a, dx, fs, rfl, ha, q⟩ := h
  obtain ⟨u, rfl, ru⟩ := r.one
  cases (show u = Value.ref a from ru)
  obtain ⟨mA, O, _⟩ := ins_get I.hok ha
  obtain ⟨od, J, _⟩ := O.look
  have h2 : Room k X.A.in1.in1 := (show Room (k + 1) X.A.in1 from Room.in1 hr).in1
  have hl : [Value.ref a].length = ps.length := hf.len [.ref a] H _ _ q
  refine PySem.W.kso_call (by have := h2.units; omega) I.kIn J hm.at_ hm.fn ?_
  have run := hf.run X.A.in1.in1 X.stack s H ⟨[.ref a], []⟩ [.ref a] [.ref a] _ E0 h2 I.env0.in1.in1 (by simpa using hb s [.ref a] I.kIn (by simpa using hl)) (.cons rfl .nil) q
  refine wpAny_call (codeAny_mono run fun rr s' hq => ?_)
  cases rr with
  | error e => exact (show False from hq).elim
  | ok fl =>
    cases fl with
    | next => exact False.elim hq
    | brk => exact False.elim hq
    | cont => exact False.elim hq
    | ret v =>
      obtain ⟨z, H', I', rz, y, ey, qz⟩ := I.after hq
      subst ey
      obtain ⟨t, e⟩ := (show ∃ t, v = Value.str y t from rz)
      cases e
      exact ⟨.str y, H', I', ⟨t, rfl⟩, qz⟩
/-- the values of max: none is greater than what came -/
theorem cr_maxT (hc : X.calm = true) : CallR X (.builtin "max") (rMaxT X.K) := by
  intro pins s σ H vs us Q I r h
  obtain ⟨a, ns, rfl, hs, hne, q⟩ := h
  obtain ⟨its, rv, hT, _⟩ := I.tuple hs
  rw [Vals.ref1 r]
  have hi := rv.ints
  obtain ⟨xs, e⟩ := hi.allInts.items
  have hn : numsOf (intItems xs).toList = ns := by
    rw [← e]
    exact hi.numsOf
  rw [nums_intItems] at hn
  subst hn
  rw [e] at hT
  have hsz : 0 < xs.size := by simpa using hne
  have ha : a < s.heap.objs.size := hT.elim fun _ z => Heap.lt_size z.1
  have hI : a ≠ s.heap.objs.size := Nat.ne_of_lt ha
  refine PySem.call_max_walk (PySem.wpAny_pyIter_tuple hT ?_)
  refine ⟨_, [_, a], [_], _, _, _, _, rfl, Walks.tuple (A := X.A.in1) (I.ok.hd hc) _ a hI (intItems xs), ⟨⟨_, Heap.get?_push_size _ rfl, rfl, rfl⟩, hT.push _⟩, fun c hm => ?_, by simpa [intItems] using hsz, CmpOf.ints_gt (numAt xs) (fun _ _ => intItems_at), fun v h' tk hP hk => ?_⟩
  · have key : c < s.heap.objs.size + 1 := by
      rcases List.mem_cons.mp hm with rfl | hm2
      · exact Nat.lt_succ_self _
      · rcases List.mem_cons.mp hm2 with rfl | z
        · exact Nat.lt_succ_of_lt ha
        · cases z
    exact Nat.lt_of_lt_of_eq key (Heap.size_push ..).symm
  · have old : ∀ b o, s.heap.get? b = some o → h'.get? b = some o := fun b o eo => by
      refine hk b o (fun hm => ?_) (Heap.get?_push_of_some _ eo)
      rcases List.mem_cons.mp hm with e1 | z
      · exact absurd (e1 ▸ Heap.lt_size eo) (Nat.lt_irrefl _)
      · cases z
    have hP2 : (intItems xs)[argBest (fun i j => decide (numAt xs i > numAt xs j)) (xs.size - 1)]? = some v := by simpa [intItems] using hP
    obtain ⟨t, rfl⟩ := intItems_at hP2
    obtain ⟨g1, g2⟩ := argBest_gt (numAt xs) (xs.size - 1)
    refine ⟨.int _, H, I.kept old, ⟨_, rfl⟩, q _ ?_ fun y hy => ?_⟩
    · rw [numAt_eq]
      exact PySem.getD_mem (by rw [List.length_map, Array.length_toList]; omega)
    · obtain ⟨j, hj, rfl⟩ := mem_getD hy
      rw [List.length_map, Array.length_toList] at hj
      rw [← numAt_eq]
      exact g2 j (by omega)
end
/-! ### filters -/
/-- those at whose places p says yes -/
def pick {α : Type} (p : Nat → Bool) : Nat → List α → List α
  | _, [] => []
  | k, x :: r => if p k = true then x :: pick p (k + 1) r else pick p (k + 1) r
theorem pick_snoc {α : Type} (p : Nat → Bool) (x : α) : ∀ (k : Nat) (l : List α), pick p k (l ++ [x]) = pick p k l ++ (if p (k + l.length) = true then [x] else [])
  | k, [] => by
    show (if p k = true then [x] else []) = _
    simp [pick]
  | k, y :: r => by
    have ih := pick_snoc p x (k + 1) r
    have e : k + 1 + r.length = k + (y :: r).length := by simp; omega
    rw [e] at ih
    show (if p k = true then y :: pick p (k + 1) (r ++ [x]) else pick p (k + 1) (r ++ [x])) = (if p k = true then y :: pick p (k + 1) r else pick p (k + 1) r) ++ _
    rw [ih]
    split <;> rfl
theorem pick_len {α : Type} (p : Nat → Bool) : ∀ (k : Nat) (l : List α), (pick p k l).length ≤ l.length
  | _, [] => Nat.le_refl _
  | k, y :: r => by
    have ih := pick_len p (k + 1) r
    show (if p k = true then y :: pick p (k + 1) r else pick p (k + 1) r).length ≤ r.length + 1
    split
    · exact Nat.succ_le_succ ih
    · exact Nat.le_succ_of_le ih
theorem pick_filter {α : Type} (f : α → Bool) : ∀ (k : Nat) (l : List α) (p : Nat → Bool), (∀ i x, l[i]? = some x → p (k + i) = f x) → pick p k l = l.filter f
  | _, [], _, _ => rfl
  | k, y :: r, p, h => by
    have h0 : p k = f y := h 0 y rfl
    have ih := pick_filter f (k + 1) r p fun i x e => by
      have := h (i + 1) x (by simpa using e)
      rw [← this]
      congr 1
      omega
    show (if p k = true then y :: pick p (k + 1) r else pick p (k + 1) r) = _
    rw [ih, h0, List.filter_cons]
section
variable {J : It} {G : Hp → Prop}
/-- [x for x in xs if ..] -/
theorem lc_filt {xs : List V} (w : Walk J xs.length G (YAt xs)) {j : Nat} {tt : TT} {σ : L2.St} {H1 : Hp} {D : Addr} {Qd : Hp → Prop} (hj : j < σ.length) (hG : ∀ H, Same H1 H → G H) (hD : H1 D = none) (hz : xs.length ≤ sizeLine) (p : Nat → Bool)
    (hs : ∀ i x H, xs[i]? = some x → Same H1 H → ∀ (Kb : Bool → Hp → Prop), (∀ H3, Same H H3 → Kb (p i) H3) → tt ((σ.set j none).set j (some x)) H Kb)
    (hd : ∀ H, Same H1 H → H D = some (.lst (pick p 0 xs)) → Qd H) :
    ∃ W : Nat → Nat → Hp → Prop, (∃ m, W 0 m (upd H1 D (.lst []))) ∧ ∀ i m H, W i m H →
      (J.stop i H ∧ Qd H) ∨ (J.go i H ∧ ∃ Nx : Hp → Prop, (∀ H', Nx H' → ∃ m', m' < m ∧ W (i + 1) m' H') ∧ ∀ x H', J.yld i H x H' → gName j x (wipe σ [j]) H' fun σ2 H2 => wipe σ2 [j] = wipe σ [j] ∧ tt σ2 H2 fun b H3 =>
        if b = true then tVar j σ2 H3 fun y H4 => ∃ acc, H4 D = some (.lst acc) ∧ acc.length < sizeLine ∧ Nx (upd H4 D (.lst (acc ++ [y]))) else Nx H3) := by
  refine lc_acc w [] (fun _ _ => True) (fun i acc _ => acc = pick p 0 (xs.take i)) hD (by simp) (fun _ _ _ _ => trivial) trivial rfl (fun H a => hG H a.same) ?_ fun H acc a m e p1 => hd H a.same (by rw [e, p1, List.take_length])
  intro i x H H' acc hi a m e p1 y Kt Kf kt kf
  obtain ⟨rfl, ex⟩ := y
  have tk : xs.take (i + 1) = xs.take i ++ [x] := by
    rw [List.take_add_one, ex]
    rfl
  have tl : (xs.take i).length = i := by rw [List.length_take]; omega
  have st : pick p 0 (xs.take (i + 1)) = pick p 0 (xs.take i) ++ (if p i = true then [x] else []) := by
    rw [tk, pick_snoc, tl, Nat.zero_add]
  refine ⟨?_, hs i x H' ex a.same _ fun H3 s3 => ?_⟩
  · show ((σ.set j none).set j _).set j none = σ.set j none
    rw [List.set_set, List.set_set]
  · cases hp : p i with
    | true =>
      refine iteT ⟨x, ?_, kt x H3 (Same_sm s3) ?_ trivial ?_⟩
      · show ((σ.set j none).set j (some x))[j]? = some (some x)
        rw [List.set_set, List.getElem?_set_self hj]
      · have := pick_len p 0 (xs.take i)
        rw [p1]
        omega
      · rw [st, hp, p1]
        rfl
    | false =>
      refine iteF (kf H3 (Same_sm s3) trivial ?_)
      rw [st, hp, p1]
      simp
end
theorem ty_list {K : PySem.W.Frag} {H : Hp} {a : Addr} {xs : List V} (h : SqL K H a xs) : TyX K H (.ref a) (.type "list") := by
  rcases h with (h | ⟨o, h⟩) | ⟨o, its, n, h, hc, _⟩
  · exact .base (.lst h)
  · exact .base (.frz h)
  · exact .kList h hc
end Bx
set_option Elab.async false
set_option linter.all false
set_option maxRecDepth 100000
set_option maxHeartbeats 4000000
/-! BxS2: len(set(texts)), no two alike. -/
namespace Bx
open PySem PySem.Spec PyProof.Rows L2
section
variable {prog : Program} {w : World} {A : Around} {R : Result → Shared → Prop} {I : Addr} {fp wr : List Addr} {G : Array GenState → Array GenState → Prop} {n : Nat} {P : Nat → Value → Prop} {St : Nat → Shared → Prop}
theorem strs_nth {us : List Value} {xs : List Str} (h : StrsAre us xs) : ∀ (i : Nat) (v : Value), us[i]? = some v → ∃ t, v = .str (xs.getD i Str.empty) t := by
  induction h with
  | nil => exact fun i v e => by simp at e
  | cons n t hr ih =>
    intro i v e
    match i, e with
    | 0, e => exact ⟨t, (Option.some.inj e).symm⟩
    | i + 1, e => exact ih i v e
/-- the first i of these are in -/
abbrev inFirst (xs : List Str) (i : Nat) : Str → Bool := fun k => (xs.take i).any (· == k)
theorem inFirst_succ {xs : List Str} {i : Nat} (hi : i < xs.length) (k : Str) : (inFirst xs i k || decide (k = xs.getD i Str.empty)) = inFirst xs (i + 1) k := by
  have e : xs.getD i Str.empty = xs[i] := by simp [List.getD, hi]
  unfold inFirst
  rw [List.take_add_one, List.getElem?_eq_getElem hi, List.any_append, e]
  show (_ || _) = (_ || ((xs[i] == k) || false))
  rw [Bool.or_false]
  by_cases h : k = xs[i]
  · rw [h]
    simp
  · have h2 : (xs[i] == k) = false := beq_eq_false_iff_ne.mpr fun z => h z.symm
    rw [h2, decide_eq_false h]
theorem inFirst_not {xs : List Str} (nd : xs.Nodup) {i : Nat} (hi : i < xs.length) : inFirst xs i (xs.getD i Str.empty) = false := by
  have e : xs.getD i Str.empty = xs[i] := by simp [List.getD, hi]
  unfold inFirst
  rw [e, List.any_eq_false]
  intro y hy hq
  obtain ⟨j, hj, rfl⟩ := List.mem_take_iff_getElem.mp hy
  have hj2 : j < i := by omega
  have := (List.getElem_inj nd).mp (beq_iff_eq.mp hq)
  omega
/-- the loop of set(): each text of xs is put in -/
theorem setLoop (W : WalksS prog w A.in1 I fp wr G n P St) (S : Addr) (hSf : S ∉ fp) (xs : List Str) (hsz : xs.length = n) (nd : xs.Nodup) (hn : n + 1 < scanBound) (hval : ∀ i v, P i v → ∃ t, v = .str (xs.getD i Str.empty) t) :
    ∀ (m i : Nat) (s : Shared), n - i = m → i ≤ n → St i s → s.heap.SetOf (PySem.strKind prog w) S (inFirst xs i) i → (∀ s', Moved (S :: wr) G s s' → s'.heap.SetOf (PySem.strKind prog w) S (inFirst xs n) n → R (.ok (.ret .none)) s') → codeAny (model prog w) A (.builtin "set.update.loop" ⟨[.ref S, .ref I], []⟩) R s := by
  have hSw : S ∉ wr := fun h => hSf (W.sub _ h)
  have hsub : ∀ b ∈ wr, b ∈ S :: wr := fun b hb => List.mem_cons_of_mem _ hb
  intro m
  induction m with
  | zero =>
    intro i s hk hi hst hS hR
    obtain rfl : i = n := by omega
    refine codeAny_builtin PyProof.Rows.F.entry_set_update_loop ?_
    rw [Around.under_plainId PyProof.Rows.F.plain_set_update_loop _]
    show wpAny _ A.in1 (pyNext (.ref I) >>= _) _ _ s
    refine wpAny_bind (W.done s _ _ hst fun s' hm => wpAny_pure (hR s' (hm.mono hsub) ?_))
    obtain ⟨o, es, ep, t, ho, rest⟩ := hS
    exact ⟨o, es, ep, t, hm.heap S _ hSw ho, rest⟩
  | succ m ih =>
    intro i s hk hi hst hS hR
    have hlt : i < n := by omega
    refine codeAny_builtin PyProof.Rows.F.entry_set_update_loop ?_
    rw [Around.under_plainId PyProof.Rows.F.plain_set_update_loop _]
    show wpAny _ A.in1 (pyNext (.ref I) >>= _) _ _ s
    refine wpAny_bind (W.item i s _ _ hlt hst fun v s' hP hst' hm => ?_)
    obtain ⟨t, rfl⟩ := hval i v hP
    have hS' : s'.heap.SetOf (PySem.strKind prog w) S (inFirst xs i) i := by
      obtain ⟨o, es, ep, tb, ho, rest⟩ := hS
      exact ⟨o, es, ep, tb, hm.heap S _ hSw ho, rest⟩
    show wpAny _ A.in1 (holding [Value.str (xs.getD i Str.empty) t] (setAdd S (.str (xs.getD i Str.empty) t)) >>= _) _ _ s'
    refine wpAny_bind (wpAny_holding ?_)
    unfold setAdd
    refine wpAny_holding (wpAny_bind ((PySem.strKind prog w).pyHash (k := xs.getD i Str.empty) (strKind_is _ _ _ _) ?_))
    refine wpAny_setAddHashed_of (knd := PySem.strKind prog w) (s := { s' with toks := s'.toks + 1 }) (strKind_is _ _ _ _) rfl hS' (by omega) fun h' hsb hS2 => ?_
    have hSi : h'.SetOf (PySem.strKind prog w) S (inFirst xs (i + 1)) (i + 1) := by
      refine SetOf_congr hS2 (fun k => inFirst_succ (by omega) k) ?_
      rw [inFirst_not nd (by omega)]
      rfl
    refine wpAny_pure ⟨plainId_quiet PyProof.Rows.F.plain_set_update_loop _, ih (i + 1) _ (by omega) hlt (W.frame _ s' _ _ hst' (Nat.le_succ _) fun b hb o e => ?_) hSi fun s'' hm'' hS'' => hR s'' (Moved.trans W.gtrans ((hm.mono hsub).then_heap (Nat.le_succ _) fun b o hb e => ?_) hm'') hS''⟩
    · rw [hsb.2 b fun z => hSf (by rw [← z]; exact hb)]
      exact e
    · rw [hsb.2 b fun z => hb (by rw [z]; exact List.mem_cons_self)]
      exact e
end
section
variable {prog : Program} {w : World} {A : Around} {E : Value → Shared → Prop} {s : Shared}
/-- what stands when set(texts) is made: its address, what is in it, the old as it was -/
def SetMade (prog : Program) (w : World) (s : Shared) (xs : List Str) (Q : Value → Shared → Prop) : Prop := ∀ (h' : Heap) (tk : Nat), h'.SetOf (PySem.strKind prog w) s.heap.objs.size (inFirst xs xs.length) xs.length →
  (∀ b o, b < s.heap.objs.size → s.heap.get? b = some o → h'.get? b = some o) → Q (.ref s.heap.objs.size) { s with heap := h', toks := tk }
abbrev newSet (led : Bool) : Obj := { cls := .type "set", dict := none, data := .set #[] 0 (.fresh 0 0 led) }
theorem set_ne {l : Addr} {items : Array Value} (hl : s.heap.IsList l items ∨ s.heap.IsTuple l items) (led : Bool) : l ≠ (s.heap.push (newSet led)).objs.size := by
  have hlS : l < s.heap.objs.size := by
    rcases hl with ⟨_, z, _⟩ | ⟨_, z, _⟩ <;> exact Heap.lt_size z
  rw [Heap.size_push]
  exact Nat.ne_of_lt (Nat.lt_succ_of_lt hlS)
/-- the loop that fills it, the iterator laid -/
theorem set_fill {l : Addr} {items : Array Value} {xs : List Str} {Q' : Result → Shared → Prop} {St : Nat → Shared → Prop} (hl : s.heap.IsList l items ∨ s.heap.IsTuple l items) (hi : PyProof.Rows.StrsAre items.toList xs) (nd : xs.Nodup) (hn : xs.length + 1 < scanBound) (led : Bool) (it : Obj)
    (W : WalksS prog w A.in1 (s.heap.push (newSet led)).objs.size [(s.heap.push (newSet led)).objs.size, l] [(s.heap.push (newSet led)).objs.size] (fun a b => b = a) items.size (fun i v => items[i]? = some v) St)
    (hst : St 0 { s with heap := (s.heap.push (newSet led)).push it })
    (hQ : ∀ h' tk, h'.SetOf (PySem.strKind prog w) s.heap.objs.size (inFirst xs xs.length) xs.length → (∀ b o, b < s.heap.objs.size → s.heap.get? b = some o → h'.get? b = some o) → Q' (.ok (.ret .none)) { s with heap := h', toks := tk }) :
    codeAny (model prog w) A (.builtin "set.update.loop" ⟨[.ref s.heap.objs.size, .ref (s.heap.push (newSet led)).objs.size], []⟩) Q' { s with heap := (s.heap.push (newSet led)).push it } := by
  have hlS : l < s.heap.objs.size := by
    rcases hl with ⟨_, z, _⟩ | ⟨_, z, _⟩ <;> exact Heap.lt_size z
  have hsz : xs.length = items.size := by rw [← StrsAre.len_eq hi, Array.length_toList]
  have hS : (s.heap.push (newSet led)).get? s.heap.objs.size = some (newSet led) := Heap.get?_push_size _ rfl
  have hSf : s.heap.objs.size ∉ [(s.heap.push (newSet led)).objs.size, l] := by
    rw [Heap.size_push]
    simp only [List.mem_cons, List.not_mem_nil, or_false, not_or]
    exact ⟨Nat.ne_of_lt (Nat.lt_succ_self _), Nat.ne_of_gt hlS⟩
  refine setLoop W s.heap.objs.size hSf xs hsz nd (by omega) (fun i v hv => strs_nth hi i v (by rw [Array.getElem?_toList]; exact hv)) (items.size - 0) 0 _ (by omega) (Nat.zero_le _) hst ?_ fun s' hm hS' => ?_
  · exact PyProof.Rows.SetOf_congr ((PyProof.Rows.setObjOf_fresh (knd := PySem.strKind prog w) led).setOf (Heap.get?_push_of_some _ hS) (by unfold scanBound; omega)) (fun _ => rfl) rfl
  · obtain ⟨h', g', d', tk', os'⟩ := s'
    obtain rfl : g' = s.gens := hm.gens
    obtain rfl : d' = s.drawn := hm.drawn
    obtain rfl : os' = s.os := hm.os
    refine hQ h' tk' (by rw [hsz]; exact hS') fun b o hb e => hm.heap b o ?_ (Heap.get?_push_of_some _ (Heap.get?_push_of_some _ e))
    rw [Heap.size_push]
    simp only [List.mem_cons, List.not_mem_nil, or_false, not_or]
    exact ⟨Nat.ne_of_lt hb, Nat.ne_of_lt (Nat.lt_succ_of_lt hb)⟩
theorem set_call {l : Addr} {items : Array Value} {xs : List Str} {Q : Value → Shared → Prop} (hh : A.handled = none) (hl : s.heap.IsList l items ∨ s.heap.IsTuple l items) (hi : PyProof.Rows.StrsAre items.toList xs) (nd : xs.Nodup) (hn : xs.length + 1 < scanBound)
    (h : SetMade prog w s xs Q) : wpAny (model prog w) A (call (.type "set") [.ref l]) Q E s := by
  obtain ⟨c, tl, hmro⟩ := PySem.F.called_set.mro
  have k1 := PySem.F.called_set.made
  have k2 := PySem.F.called_set.sub
  have k3 := PySem.F.called_set.notType
  have k4 := PySem.F.called_set.canCreate
  have k5 := PySem.F.typeCall_set_1 (.ref l)
  refine wpAny_call (codeAny_of_tree (show wpAny _ _ (callAny (.type "set") _) _ _ _ from wpAny_pure ⟨Code.quiet_builtin _ (by decide +kernel), codeAny_builtin PySem.F.entry_type_call ?_⟩))
  rw [Around.under_plain (weight_type_call_type "set" [.ref l] []) rfl]
  repeat (any_goals (first | assumption | wp_step))
  refine codeAny_mono (code_set_new_1 (.ref l) (E := E) (Q₁ := fun obj s₁ => ∃ led : Bool, obj = .ref s.heap.objs.size ∧ s₁ = { s with heap := s.heap.push (newSet led) }) fun led => ⟨led, rfl, rfl⟩) fun r s₁ hr => ?_
  match r, hr with
  | .error e, hr => exact hr
  | .ok .next, hr => exact hr.elim
  | .ok .brk, hr => exact hr.elim
  | .ok .cont, hr => exact hr.elim
  | .ok (.ret obj), hr =>
    obtain ⟨led, rfl, rfl⟩ := hr
    have hS : (s.heap.push (newSet led)).get? s.heap.objs.size = some (newSet led) := Heap.get?_push_size _ rfl
    have hT : Shared.TypeIs { s with heap := s.heap.push (newSet led) } (.ref s.heap.objs.size) "set" := ⟨_, hS, rfl⟩
    have k6 := PySem.F.called_set.init.lookup
    have k7 := PySem.F.called_set.init.bind (.ref s.heap.objs.size)
    repeat (any_goals (first | assumption | wp_step))
    refine codeAny_mono (codeAny_call_builtin (R := wants (fun r s₂ => r = .none ∧ ∃ h' tk, s₂ = { s with heap := h', toks := tk } ∧ h'.SetOf (PySem.strKind prog w) s.heap.objs.size (inFirst xs xs.length) xs.length ∧ (∀ b o, b < s.heap.objs.size → s.heap.get? b = some o → h'.get? b = some o)) E)
      PySem.F.called_set.init.plain PySem.F.entry_set_init (check_set_init_1 hT ?_)) fun r₂ s₂ hr₂ => ?_
    · rcases hl with hl | hl
      · have hl1 : (s.heap.push (newSet led)).IsList l items := hl.push _
        have hh3 : A.in1.in1.in1.handled = none := by simp [hh]
        have hlO := hl
        obtain ⟨⟨oc, od, dt, osl⟩, hol, hcl, nl, hdl⟩ := hl
        simp only at hcl hdl
        subst hcl hdl
        have hol' := Heap.get?_push_of_some (newSet led) hol
        have j1 := PySem.F.sub_list_set
        have j2 := PySem.F.sub_list_frozenset
        have j3 : (Value.type "list" == Value.type "dict") = false := by decide
        clear h hS k1 k2 k3 k4 k5 k6 k7 hmro
        unfold Builtin.«set.__init__» noKeywords Builtin.Frozenset.updateFrom
        generalize hPI : pyIter = PI
        wp_walk
        subst hPI
        have key := fun (Q' : Result → Shared → Prop) => set_fill (prog := prog) (w := w) (A := A.in1.in1) (Q' := Q') (.inl hlO) hi nd hn led { cls := .type "list_iterator", data := .fields #[.ref l, .int 0 0] } (Walks.list hh3 _ l (set_ne (.inl hlO) led) items).toS ⟨⟨_, Heap.get?_push_size _ rfl, rfl, rfl⟩, hl1.push _⟩
        refine wpAny_pyIter_list hl1 ?_
        refine wpAny_bind (wpAny_runValue ?_)
        refine key _ fun h' tk e1 e2 => ?_
        exact wpAny_pure (wpAny_pure ⟨rfl, h', tk, rfl, e1, e2⟩)
      · have hl1 : (s.heap.push (newSet led)).IsTuple l items := hl.push _
        have hh3 : A.in1.in1.in1.handled = none := by simp [hh]
        have hlO := hl
        obtain ⟨⟨oc, od, dt, osl⟩, hol, hcl, nl, hdl⟩ := hl
        simp only at hcl hdl
        subst hcl hdl
        have hol' := Heap.get?_push_of_some (newSet led) hol
        have j1 := PySem.F.sub_tuple_set
        have j2 := PySem.F.sub_tuple_frozenset
        have j3 : (Value.type "tuple" == Value.type "dict") = false := by decide
        clear h hS k1 k2 k3 k4 k5 k6 k7 hmro
        unfold Builtin.«set.__init__» noKeywords Builtin.Frozenset.updateFrom
        generalize hPI : pyIter = PI
        wp_walk
        subst hPI
        have key := fun (Q' : Result → Shared → Prop) => set_fill (prog := prog) (w := w) (A := A.in1.in1) (Q' := Q') (.inr hlO) hi nd hn led { cls := .type "tuple_iterator", data := .fields #[.ref l, .int 0 0] } (Walks.tuple hh3 _ l (set_ne (.inr hlO) led) items).toS ⟨⟨_, Heap.get?_push_size _ rfl, rfl, rfl⟩, hl1.push _⟩
        refine wpAny_pyIter_tuple hl1 ?_
        refine wpAny_bind (wpAny_runValue ?_)
        refine key _ fun h' tk e1 e2 => ?_
        exact wpAny_pure (wpAny_pure ⟨rfl, h', tk, rfl, e1, e2⟩)
    · match r₂, hr₂ with
      | .error e, hr₂ => exact hr₂
      | .ok .next, hr₂ => exact hr₂.elim
      | .ok .brk, hr₂ => exact hr₂.elim
      | .ok .cont, hr₂ => exact hr₂.elim
      | .ok (.ret r), hr₂ =>
        obtain ⟨rfl, h', tk, rfl, hS', hk'⟩ := hr₂
        repeat (any_goals (first | assumption | wp_step))
        exact h _ _ hS' hk'
end
end Bx
set_option Elab.async false
set_option linter.all false
set_option maxRecDepth 100000
set_option maxHeartbeats 4000000
/-! BxS3: len(set(xs)) as an expression, xs a list or tuple of unlike texts. -/
namespace Bx
open PySem PySem.Spec PyProof.Rows L2
def tLenSet (K : PySem.W.Frag) (ta : TE) : TE := fun σ H Q => ta σ H fun x H1 => ∃ (l : Addr) (xs : List Str), x = .ref l ∧ (SqL K H1 l (xs.map V.str) ∨ SqT K H1 l (xs.map V.str)) ∧ xs.Nodup ∧ xs.length ≤ 12 ∧ Q (.int xs.length) H1
theorem vals_strs {ys : List Str} {us : List Value} (h : Vals (ys.map V.str) us) : StrsAre us ys := h.strs
theorem pe_lenSet {X : Cx} {a : Expr} {ta : TE} {p p2 q pos : Pos} (hc : X.calm = true) (hg : Gl X "len") (hm : X.mg "len" = none) (hg2 : Gl X "set") (hm2 : X.mg "set" = none) (ha : PE X a ta) (na : starEach [a] X.env = (false, eval a X.env) :: starEach [] X.env := by rfl) :
    PE X (.Call (.Name "len" p) [.Call (.Name "set" p2) [a] [] q] [] pos) (tLenSet X.K ta) := by
  refine ⟨fun pins s σ H Q I h => Call_ (ld_blt I hg hm boot_len (PyProof.Rows.callWith_builtin1 (PyProof.Rows.args_cons (Call_ (ld_blt I hg2 hm2 boot_set (PyProof.Rows.callWith_type1 (PyProof.Rows.args_cons (thn (ha.run pins s σ H _ I h) fun v s1 z => PyProof.Rows.args_nil ?_) na) na rfl))) rfl) rfl rfl))⟩
  obtain ⟨x, H1, I1, r1, l, xs, rfl, hq, nd, h12, q1⟩ := z
  cases r1
  have big : xs.length + 1 < scanBound := Nat.lt_of_le_of_lt (Nat.succ_le_succ h12) (by decide)
  have fin : SetMade X.prog X.w s1 xs fun u s2 => wpAny (model X.prog X.w) X.A (spliced (backTo pos (starEach [] X.env))) (fun vs s₂ => wpAny (model X.prog X.w) X.A (call (.builtin "len") (u :: vs)) (EP X pins σ Q) X.xe s₂) X.xe s2 := fun h' tk hS hk => by
    refine PyProof.Rows.args_nil ?_
    obtain ⟨o, es, ep, t, ho, hex, hd, _, _, _, hf, hn⟩ := hS
    have I2 : Inv X pins σ H1 { s1 with heap := h', toks := tk } := I1.kept fun b o e => hk b o (Heap.lt_size e) e
    exact call_len_set ho hex hd hf (by rw [hn]; omega) ⟨.int xs.length, H1, I2.tok _, ⟨_, by rw [hn]⟩, q1⟩
  rcases hq with hq | hq
  · obtain ⟨its, r, pl, _⟩ := I1.list hq
    exact set_call (I1.ok.hd hc) (.inl pl.isList) (by simpa using vals_strs r) nd big fin
  · obtain ⟨its, r, pl, _⟩ := I1.tuple hq
    exact set_call (I1.ok.hd hc) (.inr pl) (by simpa using vals_strs r) nd big fin
end Bx
set_option Elab.async false
set_option linter.all false
set_option maxRecDepth 100000
set_option maxHeartbeats 4000000
/-! BxG: Parcel. -/
namespace Bx
open PySem PySem.Spec PyProof.Rows L2
/-! ### labels -/
def LAB : List Str := ["alone", "top", "upright"]
section
variable (K : PySem.W.Frag) (H : Hp)
/-- a row of labels, or None -/
def LabAt (v : V) (ls : List Str) : Prop := (v = .non ∧ ls = []) ∨ ∃ p, v = .ref p ∧ (SqL K H p (ls.map V.str) ∨ SqT K H p (ls.map V.str)) ∧ ls.Nodup ∧ ls.length ≤ 3 ∧ ∀ x ∈ ls, x ∈ LAB
end
theorem LabAt.mono {K : PySem.W.Frag} {H H' : Hp} (S : Same H H') {v : V} {ls : List Str} (h : LabAt K H v ls) : LabAt K H' v ls := by
  rcases h with h | ⟨p, rfl, h, r⟩
  · exact .inl h
  · exact .inr ⟨p, rfl, h.imp (Same.seq S) (Same_tup S), r⟩
theorem inV_strs (x : Str) (l : List Str) : inV (.str x) (l.map V.str) = decide (x ∈ l) := by
  unfold inV
  rw [List.any_map]
  apply Bool.eq_iff_iff.mpr
  rw [List.any_eq_true, decide_eq_true_iff]
  constructor
  · rintro ⟨y, hy, e⟩
    have e2 : y = x := beq_iff_eq.mp (show (y == x) = true from e)
    rw [← e2]
    exact hy
  · exact fun h => ⟨x, h, beq_self_eq_true x⟩
theorem flat_strs (l : List Str) : (l.map V.str).all flatV = true := by
  rw [List.all_map]
  exact List.all_eq_true.mpr fun _ _ => rfl
/-- a walk over what is a list or a tuple -/
theorem pi_seq {X : Cx} {tg l : Expr} {tl : TE} (hl : PE X l tl) : PI X tg l (fun σ H R => iList X.K tl σ H R ∨ iTup X.K tl σ H R) :=
  ⟨fun pins s σ H R I h => h.elim (fun z => (pi_list hl).run pins s σ H R I z) fun z => (pi_tup hl).run pins s σ H R I z⟩
theorem seq_lc {K : PySem.W.Frag} {p : Addr} {xs : List V} {σ : L2.St} {H : Hp} {i : Nat} {R : It → Hp → Prop} (hσ : σ[i]? = some (some (.ref p))) (hp : SqL K H p xs ∨ SqT K H p xs) (h : ∀ (J : It) (G : Hp → Prop), Walk J xs.length G (YAt xs) → (∀ H', Same H H' → G H') → R J H) :
    iList K (tVar i) σ H R ∨ iTup K (tVar i) σ H R := by
  rcases hp with hp | hp
  · exact .inl ⟨_, hσ, p, rfl, ⟨_, hp⟩, h _ _ walk_list fun _ s => Same.seq s hp⟩
  · exact .inr ⟨_, hσ, p, rfl, ⟨_, hp⟩, h _ _ walk_tup fun _ s => Same_tup s hp⟩
theorem lt_ty {K : PySem.W.Frag} {H : Hp} {p : Addr} {xs : List V} (h : SqL K H p xs ∨ SqT K H p xs) : ∃ t, TyX K H (.ref p) t ∧ PySem.W.kitAny K t [.type "list", .type "tuple"] = some true := by
  rcases h with h | h
  · exact ⟨_, ty_list h, kitAny_cons (b := true) (kit_ty (by decide +kernel)) (fun z => Bool.noConfusion z) fun _ => rfl⟩
  · exact ⟨_, ty_tup h, kitAny_cons (b := false) (kit_ty (by decide +kernel)) (fun _ => kitAny_cons (b := true) (kit_ty (by decide +kernel)) (fun z => Bool.noConfusion z) fun _ => rfl) fun z => Bool.noConfusion z⟩
theorem seq_mono {K : PySem.W.Frag} {H H' : Hp} {p : Addr} {xs : List V} (S : Same H H') (h : SqL K H p xs ∨ SqT K H p xs) : SqL K H' p xs ∨ SqT K H' p xs := h.imp (Same.seq S) (Same_tup S)
section
variable {P : Program} {w : World} {K : PySem.W.Frag} {mg : Str → Option Value} {base : Heap}
def spAreLabels (K : PySem.W.Frag) : Sp := fun vs H Q _ => ∃ v ls, vs = [v] ∧ LabAt K H v ls ∧ ∀ H', Same H H' → Q (.bl true) H'
theorem sc_are_labels : FnScope ["thing", "word"] ["thing"] (defScope s_are_labels) := ⟨rfl, rfl, rfl, by decide +kernel, rfl, by decide +kernel, by decide +kernel⟩
theorem F_are_labels (T : Env w K mg) : Fx P w K mg base "are_labels" 1 ["thing"] (spAreLabels K) := by
  obtain ⟨fd, F⟩ := T.d_are_labels
  refine ⟨_, fd, T.glo_are_labels, F.kp, F.bindsN fun _ _ _ _ _ _ us hl => match us, hl with | [_], _ => rfl, ?_⟩
  refine F.ok sc_are_labels (fun vs H Q E h => ?_) (fun cdv A outer s H vs Q E hr h => ?_)
  · obtain ⟨v, ls, rfl, _⟩ := h
    rfl
  · obtain ⟨v, ls, rfl, hv, k⟩ := h
    refine ⟨_, PSs.nox (pss_cons (ps_if (pt_cmpR op_isN (pv 0) pe_non (nomark _)) (pss_one (ps_ret pe_bl)) pss_nil) (pss_cons (ps_if (PW.pt (pw_or (pt_not (pt_val (pe_callB call_isiT (by rfl) T.free_isinstance (by decide +kernel) (pa_cons (pv 0) (pa_cons (pe_tup (pa_cons (pe_bltn (v := .ty "list") (u := .type "list") (by rfl) T.free_list (by decide +kernel) rfl) (pa_cons (pe_bltn (v := .ty "tuple") (u := .type "tuple") (by rfl) T.free_tuple (by decide +kernel) rfl) pa_nil))) pa_nil))))) (pw_or1 (pt_cmpR op_gt (pe_callB call_len_seq (by rfl) T.free_len (by decide +kernel) (pa_cons (pv 0) pa_nil)) (pe_callB call_len_seq (by rfl) T.free_len (by decide +kernel) (pa_cons (C8.pe_gc (v := .ref (He.ga K "LABELS")) rfl ⟨_, T.glo_LABELS, rfl⟩) pa_nil)) (nomark _))))) (pss_one (ps_ret pe_bl)) pss_nil) (pss_cons (ps_if (pt_not (pt_val (pe_callB (cr_all rfl) (by rfl) T.free_all (by decide +kernel) (pa_cons (pe_lc (own := [("word", 1)]) (g := gName 1) (tt := tYes) (by rfl) sc_are_labels.nd (pi_seq (pv 0)) (blkOk_by (own := [("word", 1)]) (N := ["thing", "word"]) (sc := defScope s_are_labels) (by decide +kernel)) (fun _ _ _ _ _ => (pg_name (i := 1) sc_are_labels.nd rfl (Or.inl rfl))) (fun _ _ _ _ _ => pts_nil) (fun _ _ _ _ _ => (pe_and (pe_callB (call_isiK K) (by rfl) T.free_isinstance (by decide +kernel) (pa_cons (pv 1) (pa_cons (pe_bltn (v := .ty "str") (u := .type "str") (by rfl) T.free_str (by decide +kernel) rfl) pa_nil))) (pe_one (pe_cmpR (op_in_seqK K) (pv 1) (C8.pe_gc (v := .ref (He.ga K "LABELS")) rfl ⟨_, T.glo_LABELS, rfl⟩) (by rfl)))))) pa_nil)))) (pss_one (ps_ret pe_bl)) pss_nil) (pss_one (ps_ret (pe_cmpR op_eq (pe_lenSet (by rfl) (by rfl) T.free_len (by rfl) T.free_set (pv 0)) (pe_callB call_len_seq (by rfl) T.free_len (by decide +kernel) (pa_cons (pv 0) pa_nil)) (nomark _))))))), ?_⟩
    rcases hv with ⟨rfl, rfl⟩ | ⟨p, rfl, hp, nd, h3, hin⟩
    · exact ⟨_, rfl, rfl, _, rfl, iteT (k _ (Same.refl _))⟩
    · refine ⟨_, rfl, rfl, _, rfl, iteF ?_⟩
      refine ⟨_, rfl, (by show 2 ≤ sizeLine; decide), fun tp ht => ?_⟩
      have s1 : Same H (upd H tp (.tup [.ty "list", .ty "tuple"])) := same_upd ht
      obtain ⟨t, ty, hk⟩ := lt_ty (seq_mono s1 hp)
      refine ⟨_, tp, [.ty "list", .ty "tuple"], t, _, true, rfl, upd_same, .cons (.ty _) (.cons (.ty _) .nil), ty, hk, _, rfl, iteF ?_⟩
      refine ⟨_, rfl, p, _, rfl, seq_mono s1 hp, ?_⟩
      refine ⟨_, _, rfl, .inr (T.labels _), _, _, rfl, rfl, _, rfl, iteDF (by rw [List.length_map]; show ¬ ((3 : Int) < _); omega) ?_⟩
      generalize upd H tp (.tup [.ty "list", .ty "tuple"]) = H1 at s1
      refine seq_lc rfl (seq_mono s1 hp) fun J G wk hG D hD => lc_src wk hG hD (by rw [List.length_map]; exact Nat.le_trans h3 (by decide)) (fun _ y _ => y = .bl true) (fun _ _ _ _ _ h => h) (fun i x B ex a _ Kt kt => ?_) fun B acc a e hl hb => ?_
      · rw [List.getElem?_map] at ex
        obtain ⟨z, ez, rfl⟩ := Option.map_eq_some_iff.mp ex
        refine ⟨_, rfl, _, _, .type "str", .type "str", true, rfl, .ty _, .base (.str _), kit_ty (by decide +kernel), _, rfl, iteT ⟨_, rfl, _, _, rfl, .inr (T.labels _), rfl, rfl, kt _ _ (Same.refl _) ?_⟩⟩
        exact congrArg V.bl ((inV_strs z LAB).trans (decide_eq_true (hin z (List.mem_of_getElem? ez))))
      · rw [all_true hb] at e
        refine ⟨D, _, rfl, SqL.of e, ?_⟩
        rw [rep_all]
        refine ⟨_, rfl, iteF ⟨_, rfl, p, ls, rfl, seq_mono (s1.trans a) hp, nd, Nat.le_trans h3 (by decide), _, rfl, p, _, rfl, seq_mono (s1.trans a) hp, ?_⟩⟩
        refine ⟨rfl, ?_⟩
        rw [List.length_map]
        show Q (V.bl (decide _)) B
        rw [decide_eq_true rfl]
        exact k _ (s1.trans a)
end
theorem pick_map {α β : Type} (f : α → β) (p : Nat → Bool) : ∀ (k : Nat) (l : List α), pick p k (l.map f) = (pick p k l).map f
  | _, [] => rfl
  | k, x :: r => by
    have ih := pick_map f p (k + 1) r
    show (if p k = true then f x :: pick p (k + 1) (r.map f) else pick p (k + 1) (r.map f)) = (if p k = true then x :: pick p (k + 1) r else pick p (k + 1) r).map f
    rw [ih]
    split <;> rfl
theorem isN_str {x : Str} : decide (V.str x = V.non) = false := decide_eq_false fun z => nomatch z
theorem isN_ref {x : Addr} : decide (V.ref x = V.non) = false := decide_eq_false fun z => nomatch z
/-- a sequence is no instance -/
theorem sm_seq {K : PySem.W.Frag} {H H' : Hp} {p a C dx : Addr} {fs : List (Str × V)} {xs : List V} (s : Sm [p] H H') (hp : H p = some (.ins C dx fs)) (h : SqL K H a xs ∨ SqT K H a xs) : SqL K H' a xs ∨ SqT K H' a xs := by
  have np : ∀ u, H a = some u → (∀ C dx fs, u ≠ .ins C dx fs) → a ∉ [p] := fun u e z m => by
    have e2 : a = p := by simpa using m
    rw [e2, hp] at e
    exact z _ _ _ (Option.some.inj e).symm
  rcases h with ((z | ⟨o, z⟩) | z) | ((z | ⟨o, z⟩) | z)
  · exact .inl (.inl (.inl (s _ _ (np _ z fun _ _ _ e => nomatch e) z)))
  · exact .inl (.inl (.inr ⟨o, s _ _ (np _ z fun _ _ _ e => nomatch e) z⟩))
  · exact .inl (.inr z)
  · exact .inr (.inl (.inl (s _ _ (np _ z fun _ _ _ e => nomatch e) z)))
  · exact .inr (.inl (.inr ⟨o, s _ _ (np _ z fun _ _ _ e => nomatch e) z⟩))
  · exact .inr (.inr z)
/-! ### parcels -/
structure Par where
  name : Str
  t : T3
  wall : Int
  heavy : Int
  bears : Int
  marks : List Str
def marksOf (ls : List Str) : List Str := LAB.filter fun x => decide (x ∈ ls)
def okPar (p : Par) : Prop := isName p.name ∧ okT p.t ∧ (1 ≤ p.wall ∧ p.wall ≤ 1000) ∧ (0 ≤ p.heavy ∧ p.heavy ≤ 100000) ∧ (0 ≤ p.bears ∧ p.bears ≤ 100000) ∧ ∃ ls, p.marks = marksOf ls
abbrev parFs (n : Str) (vs : V) (a b c : Int) (m : Addr) : List (Str × V) := [("called", .str n), ("outside", vs), ("thick", .int a), ("heavy", .int b), ("strong", .int c), ("marks", .ref m)]
section
variable (K : PySem.W.Frag) (H : Hp)
def ParAt (v : V) (p : Par) : Prop := ∃ a dx vs m, v = .ref a ∧ H a = some (.ins (CP K) dx (parFs p.name vs p.wall p.heavy p.bears m)) ∧ SidesAt K H vs p.t ∧ H m = some (.lst (p.marks.map V.str))
end
theorem ParAt.mono {K : PySem.W.Frag} {H H' : Hp} (S : Same H H') {v : V} {p : Par} (h : ParAt K H v p) : ParAt K H' v p := by
  obtain ⟨a, dx, vs, m, h1, h2, h3, h4⟩ := h
  exact ⟨a, dx, vs, m, h1, S _ _ h2, h3.mono S, S _ _ h4⟩
section
variable {P : Program} {w : World} {K : PySem.W.Frag} {mg : Str → Option Value} {base : Heap}
def spPInit (K : PySem.W.Frag) : Sp := fun vs H Q _ => ∃ (p dx : Addr) (q : Par) (sv lv : V) (ls : List Str), vs = [.ref p, .str q.name, sv, .int q.wall, .int q.heavy, .int q.bears, lv] ∧ okPar q ∧ q.marks = marksOf ls ∧ SidesAt K H sv q.t ∧ LabAt K H lv ls ∧ H p = some (.ins (CP K) dx []) ∧
  ∀ H' m, Sm [p] H H' → H' p = some (.ins (CP K) dx (parFs q.name sv q.wall q.heavy q.bears m)) → H m = none → H' m = some (.lst (q.marks.map V.str)) → Q .non H'
theorem sc_Parcel_init : FnScope ["self", "name", "sides", "wall", "weight", "bears", "labels", "number", "word"] ["self", "name", "sides", "wall", "weight", "bears", "labels"] (defScope s_Parcel_init) := ⟨rfl, rfl, rfl, by decide +kernel, rfl, by decide +kernel, by decide +kernel⟩
theorem ok_Parcel_init (T : Env w K mg) {fd : FuncData} (F : FunD K "__init__" "Parcel.__init__" (defArgs s_Parcel_init) (defBody s_Parcel_init) (defScope s_Parcel_init) [.int 1, .int 0, .int 0, .non] [] (He.fAd K ("Parcel", some "__init__")) fd) :
    FnOk P w K mg base CX0 2 (He.fAd K ("Parcel", some "__init__")) fd ["self", "name", "sides", "wall", "weight", "bears", "labels"] (spPInit K) := by
  have F_is_whole := F_is_whole (P := P) (base := base) T
  have F_is_name := F_is_name (P := P) (base := base) T
  have F_are_labels := F_are_labels (P := P) (base := base) T
  refine F.ok sc_Parcel_init (fun vs H Q E h => ?_) (fun cdv A outer s H vs Q E hr h => ?_)
  · obtain ⟨p, dx, q, sv, lv, ls, rfl, _⟩ := h
    rfl
  · obtain ⟨p, dx, q, sv, lv, ls, rfl, ⟨hn, ht, hw, hh, hb, _⟩, hm, hs, hl, hp, k⟩ := h
    refine ⟨_, PSs.nox (pss_cons (ps_if (pt_not (pt_val (pe_fx F_is_name (hr.mono (by decide)) rfl (pa_cons (pv 1) pa_nil)))) (pss_one ps_never) pss_nil) (pss_cons (ps_if (pt_not (pt_val (pe_callB (C8.call_isC T.insS) (by rfl) T.free_isinstance (by decide +kernel) (pa_cons (pv 2) (pa_cons (C8.pe_gc (v := .ref (He.ga K "Sides")) rfl ⟨_, T.glo_Sides, rfl⟩) pa_nil))))) (pss_one ps_never) pss_nil) (pss_cons (ps_if (pt_not (pt_val (pe_fx F_is_whole (hr.mono (by decide)) rfl (pa_cons (pv 3) (pa_cons pe_int (pa_cons (C8.pe_gc rfl T.int_MOST_WALL) pa_nil)))))) (pss_one ps_never) pss_nil) (pss_cons (ps_for PassesOwn.never rfl (pi_tup (pe_tup (pa_cons (pv 4) (pa_cons (pv 5) pa_nil)))) (pg_name (i := 7) sc_Parcel_init.nd rfl (Or.inl rfl)) (pss_one (ps_if (pt_not (pt_val (pe_fx F_is_whole (hr.mono (by decide)) rfl (pa_cons (pv 7) (pa_cons pe_int (pa_cons (C8.pe_gc rfl T.int_MOST_WEIGHT) pa_nil)))))) (pss_one ps_never) pss_nil))) (pss_cons (ps_if (pt_not (pt_val (pe_fx F_are_labels (hr.mono (by decide)) rfl (pa_cons (pv 6) pa_nil)))) (pss_one ps_never) pss_nil) (pss_cons (ps_fld (pv 0) (pv 1) rfl) (pss_cons (ps_fld (pv 0) (pv 2) rfl) (pss_cons (ps_fld (pv 0) (pv 3) rfl) (pss_cons (ps_fld (pv 0) (pv 4) rfl) (pss_cons (ps_fld (pv 0) (pv 5) rfl) (pss_one (ps_fld (pv 0) (pe_lc (own := [("word", 8)]) (g := gName 8)  (by rfl) sc_Parcel_init.nd (pi_tup (C8.pe_gc (v := .ref (He.ga K "LABELS")) rfl ⟨_, T.glo_LABELS, rfl⟩)) (blkOk_by (own := [("word", 8)]) (N := ["self", "name", "sides", "wall", "weight", "bears", "labels", "number", "word"]) (sc := defScope s_Parcel_init) (by decide +kernel)) (fun _ _ _ _ _ => (pg_name (i := 8) sc_Parcel_init.nd rfl (Or.inl rfl))) (fun _ _ _ _ _ => pts_one (PW.pt (pw_and (pt_cmpR op_notN (pv 6) pe_non (nomark _)) (pw_and1 (pt_cmpR (op_in_seqK K) (pv 8) (pv 6) (by rfl)))))) (fun _ _ _ _ _ => (pv 8))) rfl)))))))))))), ?_⟩
    refine ⟨_, rfl, _, rfl, hn, fun H1 s1 => ⟨_, rfl, iteF ?_⟩⟩
    have hs1 := hs.mono s1
    obtain ⟨sp, sdx, sq, rfl, hs2, _⟩ := id hs1
    refine ⟨_, rfl, sp, _, _, rfl, hs2, _, rfl, iteF ⟨_, rfl, _, _, _, rfl, _, rfl, iteE false (by rw [bnd hw.1 hw.2]; rfl) ?_⟩⟩
    refine ⟨_, rfl, _, rfl, (by show 2 ≤ sizeLine; decide), fun tq htq => ?_⟩
    generalize eH2 : upd H1 tq _ = H2
    have s2 : Same H H2 := by rw [← eH2]; exact s1.trans (same_upd htq)
    have ht2 : SqT K H2 tq [.int q.heavy, .int q.bears] := by rw [← eH2]; exact SqT.of upd_same
    refine ⟨tq, rfl, ⟨_, ht2⟩, for_it (walk_tup (xs := [V.int q.heavy, V.int q.bears])) (fun _ σ H' => H' = H2 ∧ ∃ v, σ = [some (.ref p), some (.str q.name), some (.ref sp), some (.int q.wall), some (.int q.heavy), some (.int q.bears), some lv, v, none]) ⟨rfl, _, rfl⟩ (fun i σ H' _ h => by rw [h.1]; exact ht2) (fun i x σ B C hi h y => ?_) fun σ B h => ?_⟩
    · obtain ⟨rfl, v, rfl⟩ := h
      obtain ⟨rfl, e1⟩ := y
      have e2 : ∃ z : Int, x = .int z ∧ 0 ≤ z ∧ z ≤ 100000 := by
        have hi2 : i < 2 := hi
        match i, hi2 with
        | 0, _ => exact ⟨_, (Option.some.inj e1).symm, hh⟩
        | 1, _ => exact ⟨_, (Option.some.inj e1).symm, hb⟩
      obtain ⟨z, rfl, z1, z2⟩ := e2
      exact ⟨_, rfl, _, _, _, rfl, _, rfl, iteE false (by rw [bnd z1 z2]; rfl) ⟨rfl, _, rfl⟩⟩
    · obtain ⟨rfl, v, rfl⟩ := h
      refine ⟨_, rfl, lv, ls, rfl, hl.mono s2, fun H3 s3 => ⟨_, rfl, iteF ?_⟩⟩
      have hp3 : H3 p = some (.ins (CP K) dx []) := s3 _ _ (s2 _ _ hp)
      refine ⟨_, rfl, _, rfl, p, CP K, dx, _, rfl, hp3, T.cls_Parcel, T.noat_Parcel_called, (by decide), ?_⟩
      refine ⟨_, rfl, _, rfl, p, CP K, dx, _, rfl, upd_same, T.cls_Parcel, T.noat_Parcel_outside, (by show 1 < 1000; decide), ?_⟩
      refine ⟨_, rfl, _, rfl, p, CP K, dx, _, rfl, upd_same, T.cls_Parcel, T.noat_Parcel_thick, (by show 2 < 1000; decide), ?_⟩
      refine ⟨_, rfl, _, rfl, p, CP K, dx, _, rfl, upd_same, T.cls_Parcel, T.noat_Parcel_heavy, (by show 3 < 1000; decide), ?_⟩
      refine ⟨_, rfl, _, rfl, p, CP K, dx, _, rfl, upd_same, T.cls_Parcel, T.noat_Parcel_strong, (by show 4 < 1000; decide), ?_⟩
      generalize eH4 : upd (upd (upd (upd (upd H3 p _) p _) p _) p _) p _ = H4
      have hp4 : H4 p = some (.ins (CP K) dx [("called", .str q.name), ("outside", .ref sp), ("thick", .int q.wall), ("heavy", .int q.heavy), ("strong", .int q.bears)]) := by
        rw [← eH4]
        exact upd_same
      have s4 : Sm [p] H H4 := fun b u nb e => by
        have nb2 : b ≠ p := by simpa using nb
        rw [← eH4, upd_ne nb2, upd_ne nb2, upd_ne nb2, upd_ne nb2, upd_ne nb2]
        exact s3 _ _ (s2 _ _ e)
      have hl4 : LabAt K H4 lv ls := by
        rcases hl.mono s2 with z | ⟨r, rfl, z, zz⟩
        · exact .inl z
        · exact .inr ⟨r, rfl, sm_seq (fun b u nb e => by
            have nb2 : b ≠ p := by simpa using nb
            rw [← eH4, upd_ne nb2, upd_ne nb2, upd_ne nb2, upd_ne nb2, upd_ne nb2]
            exact s3 _ _ e) (s2 _ _ hp) z, zz⟩
      refine ⟨_, rfl, ⟨_, T.labels _⟩, fun D hD => lc_filt (xs := LAB.map V.str) walk_tup (by show 8 < 9; decide) (fun A a => T.labels _) hD (by show 3 ≤ sizeLine; decide) (fun i => decide (LAB.getD i Str.empty ∈ ls)) (fun i x B ex a Kb kb => ?_) fun B a e => ?_⟩
      · rw [List.getElem?_map] at ex
        obtain ⟨z, ez, rfl⟩ := Option.map_eq_some_iff.mp ex
        have ez2 : LAB.getD i Str.empty = z := by simp [List.getD, ez]
        rcases hl4.mono a with ⟨rfl, rfl⟩ | ⟨r, rfl, hr3, _⟩
        · exact ⟨_, rfl, rfl, _, rfl, iteF (by simpa using kb _ (Same.refl _))⟩
        · refine ⟨_, rfl, rfl, _, rfl, iteE true (by rw [isN_ref]; rfl) ⟨_, rfl, _, rfl, r, _, rfl, hr3, rfl, flat_strs _, _, rfl, ?_⟩⟩
          rw [show (if false = true then !inV (V.str z) (ls.map V.str) else inV (V.str z) (ls.map V.str)) = inV (V.str z) (ls.map V.str) from rfl, inV_strs]
          have := kb _ (Same.refl _)
          rw [ez2] at this
          exact this
      · rw [pick_map, pick_filter (fun x => decide (x ∈ ls)) 0 LAB _ (fun i x ex => by
          have ez2 : LAB.getD i Str.empty = x := by simp [List.getD, ex]
          rw [Nat.zero_add, ez2])] at e
        have nD : D ≠ p := fun z => by
          rw [z, hp4] at hD
          cases hD
        refine ⟨_, rfl, p, CP K, dx, _, rfl, a _ _ hp4, T.cls_Parcel, T.noat_Parcel_marks, (by show 5 < 1000; decide), ?_⟩
        have nDH : H D = none := by
          cases z : H D with
          | none => rfl
          | some u =>
            rw [s4 D u (by simpa using nD) z] at hD
            cases hD
        refine k _ D (fun b u nb eb => ?_) upd_same nDH ?_
        · rw [upd_ne (by simpa using nb)]
          exact a _ _ (s4 b u nb eb)
        · rw [upd_ne nD, e, hm]
          rfl
end
end Bx
set_option Elab.async false
set_option linter.all false
set_option maxRecDepth 100000
set_option maxHeartbeats 4000000
/-! BxG2: Parcel's methods, Heap. -/
namespace Bx
open PySem PySem.Spec PyProof.Rows L2
section
variable {P : Program} {w : World} {K : PySem.W.Frag} {mg : Str → Option Value} {base : Heap}
/-- Parcel(name, sides, wall, weight, bears, labels) -/
theorem F_Parcel_init (T : Env w K mg) : Kx P w K mg base "Parcel" (CP K) 2 ["self", "name", "sides", "wall", "weight", "bears", "labels"] [] (spPInit K) := by
  obtain ⟨fd, F⟩ := T.d_Parcel_init
  obtain ⟨ds, hv, hb⟩ := F.binds1 (ps := ["self", "name", "sides", "wall", "weight", "bears", "labels"]) 7 4 (by simp) rfl fun _ _ _ _ _ _ _ us its hl hi => match us, hl, its, hi with | [_, _, _, _, _, _, _], _, [_, _, _, _], _ => ⟨_, rfl, rfl⟩
  exact ⟨_, fd, ds, T.glo_Parcel, T.mkr_Parcel, hv, hb, ok_Parcel_init T F⟩
/-- Parcel(name, sides) -/
theorem F_Parcel2_init (T : Env w K mg) : Kx P w K mg base "Parcel" (CP K) 2 ["self", "name", "sides", "wall", "weight", "bears", "labels"] [.int 1, .int 0, .int 0, .non] (spPInit K) := by
  obtain ⟨fd, F⟩ := T.d_Parcel_init
  obtain ⟨ds, hv, hb⟩ := F.binds1 (ps := ["self", "name", "sides", "wall", "weight", "bears", "labels"]) 3 0 (by simp) rfl fun _ _ _ _ _ _ _ us its hl hi => match us, hl, its, hi with | [_, _, _], _, [_, _, _, _], _ => ⟨_, rfl, rfl⟩
  exact ⟨_, fd, ds, T.glo_Parcel, T.mkr_Parcel, hv, hb, ok_Parcel_init T F⟩
/-- a parcel that is new: its marks, too -/
def ParN (K : PySem.W.Frag) (H0 H : Hp) (v : V) (p : Par) : Prop := ∃ a dx vs m, v = .ref a ∧ H a = some (.ins (CP K) dx (parFs p.name vs p.wall p.heavy p.bears m)) ∧ SidesAt K H vs p.t ∧ H0 m = none ∧ H m = some (.lst (p.marks.map V.str))
theorem ParN.at_ {K : PySem.W.Frag} {H0 H : Hp} {v : V} {p : Par} (h : ParN K H0 H v p) : ParAt K H v p := by
  obtain ⟨a, dx, vs, m, h1, h2, h3, _, h4⟩ := h
  exact ⟨a, dx, vs, m, h1, h2, h3, h4⟩
/-- the reading of Parcel(..) -/
theorem make_parcel {H : Hp} {Q : VK} {E : XK} {q : Par} {sv lv : V} {ls : List Str} {vs : List V} (hq : okPar q) (hm : q.marks = marksOf ls) (hs : SidesAt K H sv q.t) (hl : LabAt K H lv ls) (e : vs = [.str q.name, sv, .int q.wall, .int q.heavy, .int q.bears, lv]) (k : ∀ v H', Same H H' → ParN K H H' v q → Q v H') :
    ∀ x dx, H x = none → H dx = none → dx ≠ x → spPInit K (.ref x :: vs) (upd (upd H dx (.own x)) x (.ins (CP K) dx [])) (fun v H2 => v = .non ∧ Q (.ref x) H2) E := fun x dx nx ndx nex => by
  have s1 : Same H (upd (upd H dx (.own x)) x (.ins (CP K) dx [])) := fun b u hb => by
    rw [upd_ne (ne_of_none hb nx), upd_ne (ne_of_none hb ndx)]
    exact hb
  refine ⟨x, dx, q, sv, lv, ls, by rw [e], hq, hm, hs.mono s1, hl.mono s1, upd_same, fun H' m a h1 hm0 h2 => ⟨rfl, ?_⟩⟩
  have s2 : Same H H' := fun b u hb => a b u (by have := ne_of_none hb nx; simpa using this) (s1 b u hb)
  have hm1 : H m = none := by
    cases z : H m with
    | none => rfl
    | some u =>
      rw [s1 _ _ z] at hm0
      cases hm0
  exact k _ _ s2 ⟨x, dx, sv, m, rfl, h1, hs.mono s2, hm1, h2⟩
/-! ### name, sides -/
def spPName (K : PySem.W.Frag) : Sp := fun vs H Q _ => ∃ v p, vs = [v] ∧ ParAt K H v p ∧ Q (.str p.name) H
theorem sc_Parcel_name : FnScope ["self"] ["self"] (defScope s_Parcel_name) := ⟨rfl, rfl, rfl, by decide +kernel, rfl, by decide +kernel, by decide +kernel⟩
theorem F_Parcel_name (T : Env w K mg) : Mx P w K mg base (CP K) "name" 1 ["self"] [] (spPName K) := by
  obtain ⟨fd, F⟩ := T.d_Parcel_name
  refine ⟨_, fd, [], T.meth_Parcel_name, .nil, F.bindsN fun _ _ _ _ _ _ us hl => match us, hl with | [_], _ => rfl, ?_⟩
  refine F.ok sc_Parcel_name (fun vs H Q E h => ?_) (fun cdv A outer s H vs Q E hr h => ?_)
  · obtain ⟨v, p, rfl, _⟩ := h
    rfl
  · obtain ⟨v, p, rfl, ⟨a, dx, sv, m, rfl, ha, _⟩, k⟩ := h
    refine ⟨_, PSs.nox (pss_one (ps_ret (pe_fld (pv 0) (by rfl)))), ?_⟩
    exact ⟨_, rfl, a, _, dx, _, _, rfl, ha, T.cls_Parcel, T.noat_Parcel_called, rfl, k⟩
def spPSides (K : PySem.W.Frag) : Sp := fun vs H Q _ => ∃ v p, vs = [v] ∧ ParAt K H v p ∧ ∀ u, SidesAt K H u p.t → Q u H
theorem sc_Parcel_sides : FnScope ["self"] ["self"] (defScope s_Parcel_sides) := ⟨rfl, rfl, rfl, by decide +kernel, rfl, by decide +kernel, by decide +kernel⟩
theorem F_Parcel_sides (T : Env w K mg) : Mx P w K mg base (CP K) "sides" 1 ["self"] [] (spPSides K) := by
  obtain ⟨fd, F⟩ := T.d_Parcel_sides
  refine ⟨_, fd, [], T.meth_Parcel_sides, .nil, F.bindsN fun _ _ _ _ _ _ us hl => match us, hl with | [_], _ => rfl, ?_⟩
  refine F.ok sc_Parcel_sides (fun vs H Q E h => ?_) (fun cdv A outer s H vs Q E hr h => ?_)
  · obtain ⟨v, p, rfl, _⟩ := h
    rfl
  · obtain ⟨v, p, rfl, ⟨a, dx, sv, m, rfl, ha, hs, _⟩, k⟩ := h
    refine ⟨_, PSs.nox (pss_one (ps_ret (pe_fld (pv 0) (by rfl)))), ?_⟩
    exact ⟨_, rfl, a, _, dx, _, _, rfl, ha, T.cls_Parcel, T.noat_Parcel_outside, rfl, k _ hs⟩
/-! ### as a text -/
def iTxt (i : Int) : Str := Str.ofString (toString i)
def pWords (p : Par) : List Str := [("parcel" : Str), p.name, sTxt p.t, iTxt p.wall, iTxt p.heavy, iTxt p.bears] ++ p.marks
def pTxt (p : Par) : Str := Txt.join " " (pWords p)
theorem dig_len0 {z : Int} (h0 : 0 ≤ z) (h1 : z ≤ 100000) : (iTxt z).length ≤ 6 := toString_length_le h0 (by decide) (by omega)
theorem marks_small (ls : List Str) : ((marksOf ls).map (·.length)).sum ≤ 17 ∧ (marksOf ls).length ≤ 3 := by
  have l1 : ("alone" : Str).length = 5 := by decide +kernel
  have l2 : ("top" : Str).length = 3 := by decide +kernel
  have l3 : ("upright" : Str).length = 7 := by decide +kernel
  unfold marksOf LAB
  simp only [List.filter_cons, List.filter_nil]
  split <;> split <;> split <;> simp [l1, l2, l3]
theorem sTxt_len {t : T3} (h : okT t) : (sTxt t).length ≤ 27 := by
  have l1 := dig_len h.1
  have l2 := dig_len h.2.1
  have l3 := dig_len h.2.2
  have l4 : (" x " : Str).length = 3 := by decide +kernel
  have := StrLaws.join_length_le " x " [Str.ofString (toString t.x), Str.ofString (toString t.y), Str.ofString (toString t.z)]
  rw [show sTxt t = Str.join " x " [Str.ofString (toString t.x), Str.ofString (toString t.y), Str.ofString (toString t.z)] from StrLaws.glued_eq_join _ _]
  refine Nat.le_trans this ?_
  simp only [List.map_cons, List.map_nil, List.sum_cons, List.sum_nil, List.length_cons, List.length_nil, l4]
  omega
theorem pWords_small {p : Par} (h : okPar p) : ((pWords p).map (·.length)).sum ≤ 100 ∧ (pWords p).length ≤ 9 := by
  obtain ⟨⟨_, h8, _⟩, ht, hw, hh, hb, ls, hm⟩ := h
  have l1 : ("parcel" : Str).length = 6 := by decide +kernel
  have l2 := sTxt_len ht
  have l3 := dig_len0 (by omega) (show p.wall ≤ 100000 by omega)
  have l4 := dig_len0 hh.1 hh.2
  have l5 := dig_len0 hb.1 hb.2
  obtain ⟨l6, l7⟩ := marks_small ls
  rw [← hm] at l6 l7
  unfold pWords
  simp only [List.map_append, List.map_cons, List.map_nil, List.sum_append, List.sum_cons, List.sum_nil, List.length_append, List.length_cons, List.length_nil, l1]
  omega
def spPStr (K : PySem.W.Frag) : Sp := fun vs H Q _ => ∃ v p, vs = [v] ∧ ParAt K H v p ∧ okPar p ∧ ∀ H', Same H H' → Q (.str (pTxt p)) H'
theorem sc_Parcel_str : FnScope ["self", "words"] ["self"] (defScope s_Parcel_str) := ⟨rfl, rfl, rfl, by decide +kernel, rfl, by decide +kernel, by decide +kernel⟩
theorem F_Parcel_str (T : Env w K mg) : Mx P w K mg base (CP K) "__str__" 4 ["self"] [] (spPStr K) := by
  obtain ⟨fd, F⟩ := T.d_Parcel_str
  have F_Sides_str := F_Sides_str (P := P) (base := base) T
  refine ⟨_, fd, [], T.meth_Parcel_str, .nil, F.bindsN fun _ _ _ _ _ _ us hl => match us, hl with | [_], _ => rfl, ?_⟩
  refine F.ok sc_Parcel_str (fun vs H Q E h => ?_) (fun cdv A outer s H vs Q E hr h => ?_)
  · obtain ⟨v, p, rfl, _⟩ := h
    rfl
  · obtain ⟨v, p, rfl, ⟨a, dx, sv, m, rfl, ha, hs, hm⟩, hp, k⟩ := h
    refine ⟨_, PSs.nox (pss_cons (ps_set (i := 1) sc_Parcel_str.nd rfl (Or.inl rfl) (pe_lst (pa_cons pe_str (pa_cons (pe_fld (pv 0) (by rfl)) (pa_cons (pe_callTy (call_strOwn F_Sides_str (hr.mono (by decide))) (by rfl) T.free_str (by decide +kernel) (pa_cons (pe_fld (pv 0) (by rfl)) pa_nil)) (pa_cons (pe_callTy call_str_int (by rfl) T.free_str (by decide +kernel) (pa_cons (pe_fld (pv 0) (by rfl)) pa_nil)) (pa_cons (pe_callTy call_str_int (by rfl) T.free_str (by decide +kernel) (pa_cons (pe_fld (pv 0) (by rfl)) pa_nil)) (pa_cons (pe_callTy call_str_int (by rfl) T.free_str (by decide +kernel) (pa_cons (pe_fld (pv 0) (by rfl)) pa_nil)) pa_nil)))))))) (pss_one (ps_ret (pe_join pe_str (pe_op op_cat (pv 1) (pe_fld (pv 0) (by rfl))))))), ?_⟩
    refine ⟨_, rfl, a, _, dx, _, _, rfl, ha, T.cls_Parcel, T.noat_Parcel_called, rfl, _, rfl, a, _, dx, _, _, rfl, ha, T.cls_Parcel, T.noat_Parcel_outside, rfl, ?_⟩
    obtain ⟨sp, sdx, sq, rfl, hs1, hs2⟩ := id hs
    refine ⟨sp, sdx, _, rfl, hs1, _, p.t, rfl, hs, hp.2.1, fun H1 s1 => ⟨_, rfl, ?_⟩⟩
    have hw := hp.2.2.1
    have hh := hp.2.2.2.1
    have hb := hp.2.2.2.2.1
    refine ⟨_, rfl, a, _, dx, _, _, rfl, s1 _ _ ha, T.cls_Parcel, T.noat_Parcel_thick, rfl, _, rfl, log_small (by omega), ?_⟩
    refine ⟨_, rfl, a, _, dx, _, _, rfl, s1 _ _ ha, T.cls_Parcel, T.noat_Parcel_heavy, rfl, _, rfl, log_small (by omega), ?_⟩
    refine ⟨_, rfl, a, _, dx, _, _, rfl, s1 _ _ ha, T.cls_Parcel, T.noat_Parcel_strong, rfl, _, rfl, log_small (by omega), ?_⟩
    refine ⟨(by show 6 ≤ sizeLine; decide), fun D hD => ?_⟩
    have s2 : ∀ u, Same H1 (upd H1 D u) := fun u => same_upd hD
    refine ⟨⟨_, rfl⟩, _, rfl, _, rfl, a, _, dx, _, _, rfl, s2 _ _ _ (s1 _ _ ha), T.cls_Parcel, T.noat_Parcel_marks, rfl, D, m, _, _, rfl, rfl, upd_same, s2 _ _ _ (s1 _ _ hm), ?_, fun D2 hD2 => ?_⟩
    · have := (pWords_small hp).2
      unfold pWords at this
      rw [List.length_append] at this
      rw [List.length_map]
      exact Nat.le_trans this (by decide)
    · have q := pWords_small hp
      have lb : (" " : Str).length = 1 := by decide +kernel
      refine ⟨_, D2, pWords p, rfl, rfl, .inl (SqL.of ?_), by rw [lb]; omega, k _ (s1.trans ((s2 _).trans (same_upd hD2)))⟩
      rw [upd_same]
      unfold pWords
      rw [List.map_append]
      rfl
end
end Bx
set_option Elab.async false
set_option linter.all false
set_option maxRecDepth 100000
set_option maxHeartbeats 4000000
/-! BxH: Heap. -/
namespace Bx
open PySem PySem.Spec PyProof.Rows L2
theorem Paired.at {α β : Type} {R : α → β → Prop} : ∀ {l : List α} {m : List β} {i : Nat} {x : α}, Paired R l m → l[i]? = some x → ∃ y, m[i]? = some y ∧ R x y
  | _, _, _, _, .nil, e => by simp at e
  | _, _, 0, _, .cons r _, e => ⟨_, rfl, Option.some.inj e ▸ r⟩
  | _, _, i + 1, _, .cons _ t, e => by
    obtain ⟨y, h1, h2⟩ := Paired.at (i := i) t (by simpa using e)
    exact ⟨y, by simpa using h1, h2⟩
theorem Paired.at' {α β : Type} {R : α → β → Prop} : ∀ {l : List α} {m : List β} {i : Nat} {y : β}, Paired R l m → m[i]? = some y → ∃ x, l[i]? = some x ∧ R x y
  | _, _, _, _, .nil, e => by simp at e
  | _, _, 0, _, .cons r _, e => ⟨_, rfl, Option.some.inj e ▸ r⟩
  | _, _, i + 1, _, .cons _ t, e => by
    obtain ⟨y, h1, h2⟩ := Paired.at' (i := i) t (by simpa using e)
    exact ⟨y, by simpa using h1, h2⟩
/-- a heap of parcels: the instance, its list, what the list holds -/
structure HpAt (K : PySem.W.Frag) (H : Hp) (a dx l : Addr) (vs : List V) (ps : List Par) : Prop where
  ins : H a = some (.ins (CH K) dx [("held", .ref l)])
  lst : H l = some (.lst vs)
  all : Paired (ParAt K H) vs ps
  few : ps.length ≤ 12
theorem HpAt.mono {K : PySem.W.Frag} {H H' : Hp} (S : Same H H') {a dx l : Addr} {vs : List V} {ps : List Par} (h : HpAt K H a dx l vs ps) : HpAt K H' a dx l vs ps :=
  ⟨S _ _ h.ins, S _ _ h.lst, L2.Paired.mapP h.all fun _ _ z => z.mono S, h.few⟩
theorem HpAt.line {K : PySem.W.Frag} {H : Hp} {a dx l : Addr} {vs : List V} {ps : List Par} (h : HpAt K H a dx l vs ps) : vs.length ≤ sizeLine := by
  rw [h.all.length]
  exact Nat.le_trans h.few (by decide)
abbrev pNames (ps : List Par) : List Str := ps.map (·.name)
section
variable {P : Program} {w : World} {K : PySem.W.Frag} {mg : Str → Option Value} {base : Heap}
/-! ### a new one -/
def spHInit (K : PySem.W.Frag) : Sp := fun vs H Q _ => ∃ p dx : Addr, vs = [.ref p] ∧ H p = some (.ins (CH K) dx []) ∧ ∀ H' l, Sm [p] H H' → H' p = some (.ins (CH K) dx [("held", .ref l)]) → H l = none → H' l = some (.lst []) → Q .non H'
theorem sc_Heap_init : FnScope ["self"] ["self"] (defScope s_Heap_init) := ⟨rfl, rfl, rfl, by decide +kernel, rfl, by decide +kernel, by decide +kernel⟩
theorem F_Heap_init (T : Env w K mg) : Kx P w K mg base "Heap" (CH K) 1 ["self"] [] (spHInit K) := by
  obtain ⟨fd, F⟩ := T.d_Heap_init
  refine ⟨_, fd, [], T.glo_Heap, T.mkr_Heap, .nil, F.bindsN fun _ _ _ _ _ _ us hl => match us, hl with | [_], _ => rfl, ?_⟩
  refine F.ok sc_Heap_init (fun vs H Q E h => ?_) (fun cdv A outer s H vs Q E hr h => ?_)
  · obtain ⟨p, dx, rfl, _⟩ := h
    rfl
  · obtain ⟨p, dx, rfl, hp, k⟩ := h
    refine ⟨_, PSs.nox (pss_one (ps_fld (pv 0) (pe_lst pa_nil) rfl)), ?_⟩
    refine ⟨Nat.zero_le _, fun l hl => ⟨_, rfl, p, _, dx, [], rfl, (by grind [upd]), T.cls_Heap, T.noat_Heap_held, (by decide), ?_⟩⟩
    exact k _ l (fun b u nb hb => by grind [upd]) upd_same hl (by grind [upd])
/-! ### names -/
def spHNames (K : PySem.W.Frag) : Sp := fun vs H Q _ => ∃ a dx l xs ps, vs = [.ref a] ∧ HpAt K H a dx l xs ps ∧ ∀ D H', Same H H' → H D = none → H' D = some (.lst ((pNames ps).map V.str)) → Q (.ref D) H'
theorem sc_Heap_names : FnScope ["self", "parcel"] ["self"] (defScope s_Heap_names) := ⟨rfl, rfl, rfl, by decide +kernel, rfl, by decide +kernel, by decide +kernel⟩
theorem F_Heap_names (T : Env w K mg) : Mx P w K mg base (CH K) "names" 2 ["self"] [] (spHNames K) := by
  obtain ⟨fd, F⟩ := T.d_Heap_names
  have F_Parcel_name := F_Parcel_name (P := P) (base := base) T
  refine ⟨_, fd, [], T.meth_Heap_names, .nil, F.bindsN fun _ _ _ _ _ _ us hl => match us, hl with | [_], _ => rfl, ?_⟩
  refine F.ok sc_Heap_names (fun vs H Q E h => ?_) (fun cdv A outer s H vs Q E hr h => ?_)
  · obtain ⟨a, dx, l, xs, ps, rfl, _⟩ := h
    rfl
  · obtain ⟨a, dx, l, xs, ps, rfl, hh, k⟩ := h
    refine ⟨_, PSs.nox (pss_one (ps_ret (pe_lc (own := [("parcel", 1)]) (g := gName 1) (tt := tYes) (by rfl) sc_Heap_names.nd (pi_list (pe_fld (pv 0) (by rfl))) (blkOk_by (own := [("parcel", 1)]) (N := ["self", "parcel"]) (sc := defScope s_Heap_names) (by decide +kernel)) (fun _ _ _ _ _ => (pg_name (i := 1) sc_Heap_names.nd rfl (Or.inl rfl))) (fun _ _ _ _ _ => pts_nil) (fun _ _ _ _ _ => (pe_mx0 T.cls_Parcel F_Parcel_name (hr.mono (by decide)) (pv 1)))))), ?_⟩
    refine ⟨_, rfl, a, _, dx, _, _, rfl, hh.ins, T.cls_Heap, T.noat_Heap_held, rfl, l, rfl, ⟨_, SqL.of hh.lst⟩, fun D hD => lc_src (walk_list (xs := xs)) (fun A s => SqL.of (s _ _ hh.lst)) hD hh.line (fun i y _ => ∀ z, (pNames ps)[i]? = some z → y = .str z) (fun _ _ _ _ _ h => h) (fun i x A ex s1 _ Kt kt => ?_) fun A acc s1 e hl hb => ?_⟩
    · obtain ⟨p, ep, hp⟩ := Paired.at hh.all ex
      have hp1 := hp.mono s1
      obtain ⟨pa, pdx, sv, m, rfl, hpa, _⟩ := id hp1
      refine ⟨_, rfl, pa, pdx, _, rfl, hpa, rfl, _, p, rfl, hp1, kt _ _ (Same.refl _) fun z ez => ?_⟩
      rw [List.getElem?_map, ep] at ez
      rw [← Option.some.inj ez]
    · have e2 := acc_is (xs := pNames ps) V.str (by rw [hl, List.length_map]; exact hh.all.length) fun i y hy x hx => hb i y hy x hx
      exact k D A s1 hD (by rw [e, e2])
/-! ### a parcel's place -/
abbrev pIdx (ps : List Par) (n : Str) : Nat := (pNames ps).idxOf n
theorem idx_first {ps : List Par} {n : Str} {i : Nat} {p : Par} (hf : ∀ j, j < i → ∀ q, ps[j]? = some q → q.name ≠ n) (e : ps[i]? = some p) (h : p.name = n) : pIdx ps n = i := by
  induction ps generalizing i with
  | nil => simp at e
  | cons q r ih =>
    unfold pIdx pNames
    rw [List.map_cons, List.idxOf_cons]
    match i, e, hf with
    | 0, e, _ =>
      have e2 : q = p := Option.some.inj e
      rw [e2, h]
      simp
    | i + 1, e, hf =>
      have nq : q.name ≠ n := hf 0 (Nat.succ_pos _) q rfl
      have := ih (i := i) (fun j hj q' e' => hf (j + 1) (Nat.succ_lt_succ hj) q' (by simpa using e')) (by simpa using e)
      rw [show (q.name == n) = false from beq_eq_false_iff_ne.mpr nq]
      exact congrArg (· + 1) this
def spHPlace (K : PySem.W.Frag) : Sp := fun vs H Q _ => ∃ a dx l xs ps n, vs = [.ref a, .str n] ∧ HpAt K H a dx l xs ps ∧ n ∈ pNames ps ∧ ∀ H', Same H H' → Q (.int (pIdx ps n : Nat)) H'
theorem sc_Heap_place_of : FnScope ["self", "name", "place", "parcel"] ["self", "name"] (defScope s_Heap_place_of) := ⟨rfl, rfl, rfl, by decide +kernel, rfl, by decide +kernel, by decide +kernel⟩
theorem F_Heap_place_of (T : Env w K mg) : Mx P w K mg base (CH K) "place_of" 2 ["self", "name"] [] (spHPlace K) := by
  obtain ⟨fd, F⟩ := T.d_Heap_place_of
  have F_Parcel_name := F_Parcel_name (P := P) (base := base) T
  refine ⟨_, fd, [], T.meth_Heap_place_of, .nil, F.bindsN fun _ _ _ _ _ _ us hl => match us, hl with | [_, _], _ => rfl, ?_⟩
  refine F.ok sc_Heap_place_of (fun vs H Q E h => ?_) (fun cdv A outer s H vs Q E hr h => ?_)
  · obtain ⟨a, dx, l, xs, ps, n, rfl, _⟩ := h
    rfl
  · obtain ⟨a, dx, l, xs, ps, n, rfl, hh, hn, k⟩ := h
    refine ⟨_, PSs.nox (pss_cons (ps_for PassesOwn.never rfl (pi_enum (by rfl) T.free_enumerate (pa_cons (pe_fld (pv 0) (by rfl)) pa_nil)) (pg_tup (by rfl) (pgs_cons (pg_name (i := 2) sc_Heap_place_of.nd rfl (Or.inl rfl)) (pgs_cons (pg_name (i := 3) sc_Heap_place_of.nd rfl (Or.inl rfl)) pgs_nil))) (pss_one (ps_if (PW.pt (pw_and (pt_val (pe_callB call_isi (by rfl) T.free_isinstance (by decide +kernel) (pa_cons (pv 1) (pa_cons (pe_bltn (v := .ty "str") (u := .type "str") (by rfl) T.free_str (by decide +kernel) rfl) pa_nil)))) (pw_and1 (pt_cmpR op_eq (pe_mx0 T.cls_Parcel F_Parcel_name (hr.mono (by decide)) (pv 3)) (pv 1) (nomark _))))) (pss_one (ps_ret (pv 2))) pss_nil))) (pss_one ps_never)), ?_⟩
    refine ⟨_, rfl, a, _, dx, _, _, rfl, hh.ins, T.cls_Heap, T.noat_Heap_held, rfl, l, xs, rfl, SqL.of hh.lst, for_it (walk_enum (xs := xs)) (fun i σ H' => Same H H' ∧ (∀ j, j < i → ∀ q, ps[j]? = some q → q.name ≠ n) ∧ ∃ v u, σ = [some (.ref a), some (.str n), v, u])
      ⟨Same.refl _, fun j hj => absurd hj (Nat.not_lt_zero _), none, none, rfl⟩ (fun i σ H' _ h => SqL.of (h.1 _ _ hh.lst)) (fun i x σ B C hi h y => ?_) fun σ B h => ?_⟩
    · obtain ⟨s1, hf, v, u, rfl⟩ := h
      obtain ⟨tq, x1, x2, rfl, hq, rfl, e1, e2⟩ := y
      obtain rfl := Option.some.inj e1
      obtain ⟨p, ep, hp⟩ := Paired.at hh.all e2
      have s2 : Same H (upd B tq (.tup [.int (i : Nat), x2])) := s1.trans (same_upd hq)
      have hp1 := hp.mono s2
      obtain ⟨pa, pdx, sv, m, rfl, hpa, _⟩ := id hp1
      refine ⟨tq, _, rfl, SqT.of upd_same, rfl, _, _, rfl, _, _, rfl, rfl, ?_⟩
      refine ⟨_, rfl, _, _, .type "str", .type "str", true, rfl, .ty _, .base (.str _), kit_ty (by decide +kernel), _, rfl, iteT ⟨_, rfl, pa, pdx, _, rfl, hpa, rfl, _, p, rfl, hp1, _, rfl, rfl, _, rfl, ?_⟩⟩
      refine ite2 (fun h => ?_) (fun h => ?_)
      · have e3 : p.name = n := by
          have := of_decide_eq_true h
          injection this
        refine ⟨_, rfl, ?_⟩
        have := k _ s2
        rw [idx_first hf ep e3] at this
        exact this
      · refine ⟨s2, fun j hj q ej => ?_, _, _, rfl⟩
        rcases Nat.lt_or_ge j i with hji | hji
        · exact hf j hji q ej
        · obtain rfl : j = i := by omega
          rw [ep] at ej
          obtain rfl := Option.some.inj ej
          exact fun z => h (decide_eq_true (by rw [z]))
    · obtain ⟨s1, hf, _⟩ := h
      obtain ⟨p, hp, en⟩ := List.mem_map.mp hn
      obtain ⟨j, hj, ej⟩ := List.mem_iff_getElem.mp hp
      exact hf j (by rw [hh.all.length]; exact hj) p (by rw [List.getElem?_eq_getElem hj, ej]) en
/-! ### a parcel, taken out, put in -/
theorem idx_at {ps : List Par} {n : Str} (h : n ∈ pNames ps) : ∃ p, ps[pIdx ps n]? = some p ∧ p.name = n := by
  induction ps with
  | nil => simp at h
  | cons q r ih =>
    unfold pIdx pNames
    rw [List.map_cons, List.idxOf_cons]
    by_cases e : q.name = n
    · rw [e]
      exact ⟨q, by simp, e⟩
    · rw [show (q.name == n) = false from beq_eq_false_iff_ne.mpr e]
      have h2 : n ∈ pNames r := by
        rcases List.mem_cons.mp (show n ∈ q.name :: pNames r from h) with z | z
        · exact absurd z.symm e
        · exact z
      obtain ⟨p, h3, h4⟩ := ih h2
      exact ⟨p, h3, h4⟩
def spHParcel (K : PySem.W.Frag) : Sp := fun vs H Q _ => ∃ a dx l xs ps n, vs = [.ref a, .str n] ∧ HpAt K H a dx l xs ps ∧ n ∈ pNames ps ∧ ∀ v p H', ps[pIdx ps n]? = some p → p.name = n → Same H H' → ParAt K H' v p → Q v H'
theorem sc_Heap_parcel : FnScope ["self", "name"] ["self", "name"] (defScope s_Heap_parcel) := ⟨rfl, rfl, rfl, by decide +kernel, rfl, by decide +kernel, by decide +kernel⟩
theorem F_Heap_parcel (T : Env w K mg) : Mx P w K mg base (CH K) "parcel" 3 ["self", "name"] [] (spHParcel K) := by
  obtain ⟨fd, F⟩ := T.d_Heap_parcel
  have F_Heap_place_of := F_Heap_place_of (P := P) (base := base) T
  refine ⟨_, fd, [], T.meth_Heap_parcel, .nil, F.bindsN fun _ _ _ _ _ _ us hl => match us, hl with | [_, _], _ => rfl, ?_⟩
  refine F.ok sc_Heap_parcel (fun vs H Q E h => ?_) (fun cdv A outer s H vs Q E hr h => ?_)
  · obtain ⟨a, dx, l, xs, ps, n, rfl, _⟩ := h
    rfl
  · obtain ⟨a, dx, l, xs, ps, n, rfl, hh, hn, k⟩ := h
    refine ⟨_, PSs.nox (pss_one (ps_ret (pe_ix ix_list (pe_fld (pv 0) (by rfl)) (pe_mx T.cls_Heap F_Heap_place_of (hr.mono (by decide)) (pv 0) (pa_cons (pv 1) pa_nil)) (fun _ _ => rfl)))), ?_⟩
    obtain ⟨p, ep, en⟩ := idx_at hn
    obtain ⟨x, ex, hx⟩ := Paired.at' hh.all ep
    exact ⟨_, rfl, a, _, dx, _, _, rfl, hh.ins, T.cls_Heap, T.noat_Heap_held, rfl, _, rfl, a, dx, _, rfl, hh.ins, rfl, _, rfl, a, dx, l, xs, ps, n, rfl, hh, hn, fun H1 s1 =>
      ⟨l, _, _, x, rfl, rfl, SqL.of (s1 _ _ hh.lst), atI_nat ex, k x p H1 ep en s1 (hx.mono s1)⟩⟩
def spHOut (K : PySem.W.Frag) : Sp := fun vs H Q _ => ∃ a dx l xs ps n, vs = [.ref a, .str n] ∧ HpAt K H a dx l xs ps ∧ n ∈ pNames ps ∧ ∀ v H', Sm [l] H H' → H' l = some (.lst (xs.eraseIdx (pIdx ps n))) → Q v H'
theorem sc_Heap_out : FnScope ["self", "name"] ["self", "name"] (defScope s_Heap_out) := ⟨rfl, rfl, rfl, by decide +kernel, rfl, by decide +kernel, by decide +kernel⟩
theorem F_Heap_out (T : Env w K mg) : Mx P w K mg base (CH K) "out" 3 ["self", "name"] [] (spHOut K) := by
  obtain ⟨fd, F⟩ := T.d_Heap_out
  have F_Heap_place_of := F_Heap_place_of (P := P) (base := base) T
  refine ⟨_, fd, [], T.meth_Heap_out, .nil, F.bindsN fun _ _ _ _ _ _ us hl => match us, hl with | [_, _], _ => rfl, ?_⟩
  refine F.ok sc_Heap_out (fun vs H Q E h => ?_) (fun cdv A outer s H vs Q E hr h => ?_)
  · obtain ⟨a, dx, l, xs, ps, n, rfl, _⟩ := h
    rfl
  · obtain ⟨a, dx, l, xs, ps, n, rfl, hh, hn, k⟩ := h
    refine ⟨_, PSs.nox (pss_one (ps_ret (pe_bm PySem.F.plainAttrs_list PySem.F.slot_list_pop PySem.F.type_list_pop mt_popAt (pe_fld (pv 0) (by rfl)) (pa_cons (pe_mx T.cls_Heap F_Heap_place_of (hr.mono (by decide)) (pv 0) (pa_cons (pv 1) pa_nil)) pa_nil)))), ?_⟩
    obtain ⟨p, ep, en⟩ := idx_at hn
    obtain ⟨x, ex, hx⟩ := Paired.at' hh.all ep
    have lt : pIdx ps n < xs.length := (List.getElem?_eq_some_iff.mp ex).1
    have l12 := hh.few
    have le := hh.all.length
    refine ⟨_, rfl, a, _, dx, _, _, rfl, hh.ins, T.cls_Heap, T.noat_Heap_held, rfl, .inl ⟨rfl, _, SqL.of hh.lst⟩, _, rfl, a, dx, _, rfl, hh.ins, rfl, _, rfl, a, dx, l, xs, ps, n, rfl, hh, hn, fun H1 s1 => ⟨l, xs, _, pIdx ps n, x, rfl, rfl, s1 _ _ hh.lst, by omega, by omega, ?_, ex, ?_⟩⟩
    · rw [seqIndex_of (by omega) (by omega)]
      rfl
    · exact k _ _ (fun b u nb e => by rw [upd_ne (by simpa using nb)]; exact s1 _ _ e) upd_same
def spHPut (K : PySem.W.Frag) : Sp := fun vs H Q _ => ∃ a dx l xs ps v p, vs = [.ref a, v, .non] ∧ HpAt K H a dx l xs ps ∧ ParAt K H v p ∧ p.name ∉ pNames ps ∧ ps.length < 12 ∧ ∀ H', Sm [l] H H' → H' l = some (.lst (xs ++ [v])) → Q .non H'
theorem sc_Heap_put : FnScope ["self", "parcel", "ahead", "place"] ["self", "parcel", "ahead"] (defScope s_Heap_put) := ⟨rfl, rfl, rfl, by decide +kernel, rfl, by decide +kernel, by decide +kernel⟩
theorem F_Heap_put (T : Env w K mg) : Mx P w K mg base (CH K) "put" 3 ["self", "parcel", "ahead"] [.non] (spHPut K) := by
  obtain ⟨fd, F⟩ := T.d_Heap_put
  have F_Heap_place_of := F_Heap_place_of (P := P) (base := base) T
  have F_Heap_names := F_Heap_names (P := P) (base := base) T
  have F_Parcel_name := F_Parcel_name (P := P) (base := base) T
  obtain ⟨ds, hv, hb⟩ := F.binds1 (ps := ["self", "parcel", "ahead"]) 2 0 (by simp) rfl fun _ _ _ _ _ _ _ us its hl hi => match us, hl, its, hi with | [_, _], _, [_], _ => ⟨_, rfl, rfl⟩
  refine ⟨_, fd, ds, T.meth_Heap_put, hv, hb, ?_⟩
  refine F.ok sc_Heap_put (fun vs H Q E h => ?_) (fun cdv A outer s H vs Q E hr h => ?_)
  · obtain ⟨a, dx, l, xs, ps, v, p, rfl, _⟩ := h
    rfl
  · obtain ⟨a, dx, l, xs, ps, v, p, rfl, hh, hp, hn, h12, k⟩ := h
    refine ⟨_, PSs.nox (pss_cons (ps_if (pt_not (pt_val (pe_callB (C8.call_isC T.insP) (by rfl) T.free_isinstance (by decide +kernel) (pa_cons (pv 1) (pa_cons (C8.pe_gc (v := .ref (He.ga K "Parcel")) rfl ⟨_, T.glo_Parcel, rfl⟩) pa_nil))))) (pss_one ps_never) pss_nil) (pss_cons (ps_if (pt_cmpR op_in_seq (pe_mx0 T.cls_Parcel F_Parcel_name (hr.mono (by decide)) (pv 1)) (pe_mx0 T.cls_Heap F_Heap_names (hr.mono (by decide)) (pv 0)) (by rfl)) (pss_one ps_never) pss_nil) (pss_cons (ps_set (i := 3) sc_Heap_put.nd rfl (Or.inl rfl) (pe_callB call_len_seq (by rfl) T.free_len (by decide +kernel) (pa_cons (pe_fld (pv 0) (by rfl)) pa_nil))) (pss_cons (ps_if (pt_cmpR op_notN (pv 2) pe_non (nomark _)) (pss_one (ps_set (i := 3) sc_Heap_put.nd rfl (Or.inl rfl) (pe_mx T.cls_Heap F_Heap_place_of (hr.mono (by decide)) (pv 0) (pa_cons (pv 2) pa_nil)))) pss_nil) (pss_cons (ps_if (pt_cmpR op_eq (pe_callB call_len_seq (by rfl) T.free_len (by decide +kernel) (pa_cons (pe_fld (pv 0) (by rfl)) pa_nil)) (C8.pe_gc rfl T.int_MOST_PARCELS) (nomark _)) (pss_one ps_never) pss_nil) (pss_one (ps_expr (pe_bm PySem.F.plainAttrs_list PySem.F.slot_list_insert PySem.F.type_list_insert mt_insert (pe_fld (pv 0) (by rfl)) (pa_cons (pv 3) (pa_cons (pv 1) pa_nil)))))))))), ?_⟩
    obtain ⟨pa, pdx, sv, m, rfl, hpa, _⟩ := id hp
    have le := hh.all.length
    refine ⟨_, rfl, pa, pdx, _, rfl, hpa, _, rfl, iteF ?_⟩
    refine ⟨_, rfl, pa, pdx, _, rfl, hpa, rfl, _, p, rfl, hp, _, rfl, a, dx, _, rfl, hh.ins, rfl, a, dx, l, xs, ps, rfl, hh, fun D H1 s1 hD eD => ⟨D, _, rfl, .inl (SqL.of eD), rfl, flat_strs _, _, rfl, ?_⟩⟩
    rw [show (if false = true then !inV (V.str p.name) ((pNames ps).map V.str) else inV (V.str p.name) ((pNames ps).map V.str)) = inV (V.str p.name) ((pNames ps).map V.str) from rfl, inV_strs, decide_eq_false hn]
    have ha1 := s1 _ _ hh.ins
    have hl1 := s1 _ _ hh.lst
    refine iteF ⟨_, rfl, a, _, dx, _, _, rfl, ha1, T.cls_Heap, T.noat_Heap_held, rfl, l, _, rfl, .inl (SqL.of hl1), ?_⟩
    refine ⟨_, rfl, rfl, _, rfl, iteF ?_⟩
    refine ⟨_, rfl, a, _, dx, _, _, rfl, ha1, T.cls_Heap, T.noat_Heap_held, rfl, l, _, rfl, .inl (SqL.of hl1), rfl, _, rfl, ?_⟩
    refine iteDF (fun z => ?_) ?_
    · have z2 : (xs.length : Int) = 12 := by injection z
      omega
    · refine ⟨_, rfl, a, _, dx, _, _, rfl, ha1, T.cls_Heap, T.noat_Heap_held, rfl, .inl ⟨rfl, _, SqL.of hl1⟩, _, rfl, _, rfl, l, xs, _, _, rfl, rfl, hl1, small1000 (by omega), by omega, by omega, ?_⟩
      refine k _ (fun b u nb e => by rw [upd_ne (by simpa using nb)]; exact s1 _ _ e) ?_
      rw [upd_same]
      have e1 : xs.take (xs.length : Int).toNat = xs := by simp
      have e2 : xs.drop (xs.length : Int).toNat = [] := by simp
      rw [e1, e2, List.append_nil]
/-! ### all of them -/
def spHParcels (K : PySem.W.Frag) : Sp := fun vs H Q _ => ∃ a dx l xs ps, vs = [.ref a] ∧ HpAt K H a dx l xs ps ∧ ∀ D H', Same H H' → H D = none → H' D = some (.lst xs) → Q (.ref D) H'
theorem sc_Heap_parcels : FnScope ["self"] ["self"] (defScope s_Heap_parcels) := ⟨rfl, rfl, rfl, by decide +kernel, rfl, by decide +kernel, by decide +kernel⟩
theorem F_Heap_parcels (T : Env w K mg) : Mx P w K mg base (CH K) "parcels" 1 ["self"] [] (spHParcels K) := by
  obtain ⟨fd, F⟩ := T.d_Heap_parcels
  refine ⟨_, fd, [], T.meth_Heap_parcels, .nil, F.bindsN fun _ _ _ _ _ _ us hl => match us, hl with | [_], _ => rfl, ?_⟩
  refine F.ok sc_Heap_parcels (fun vs H Q E h => ?_) (fun cdv A outer s H vs Q E hr h => ?_)
  · obtain ⟨a, dx, l, xs, ps, rfl, _⟩ := h
    rfl
  · obtain ⟨a, dx, l, xs, ps, rfl, hh, k⟩ := h
    refine ⟨_, PSs.nox (pss_one (ps_ret (pe_callTy call_list_of (by rfl) T.free_list (by decide +kernel) (pa_cons (pe_fld (pv 0) (by rfl)) pa_nil)))), ?_⟩
    exact ⟨_, rfl, a, _, dx, _, _, rfl, hh.ins, T.cls_Heap, T.noat_Heap_held, rfl, l, _, rfl, .inl (SqL.of hh.lst), fun D hD => k D _ (same_upd hD) hD upd_same⟩
end
end Bx
set_option Elab.async false
set_option linter.all false
set_option maxRecDepth 100000
set_option maxHeartbeats 4000000
/-! BxL: layings, I. -/
namespace Bx
open PySem PySem.Spec PyProof.Rows L2
theorem Lay.depth_lt : ∀ L : Lay, L.depth < L.names.length
  | .one _ _ => Nat.lt_succ_self 0
  | .by_ _ a b => by
    have h1 := Lay.depth_lt a
    have h2 := Lay.depth_lt b
    show max a.depth b.depth + 1 < (a.names ++ b.names).length
    rw [List.length_append]
    omega
section
variable {P : Program} {w : World} {K : PySem.W.Frag} {mg : Str → Option Value} {base : Heap}
/-! ### the form -/
def spTurnedP (K : PySem.W.Frag) : Sp := fun vs H Q _ => ∃ a dx l xs ps v n o, vs = [.ref a, v] ∧ HpAt K H a dx l xs ps ∧ LayAt K H v (.one n o) ∧ n ∈ pNames ps ∧ ∀ H', Same H H' → Q (.bl true) H'
theorem sc_is_parcel_turned : FnScope ["heap", "thing"] ["heap", "thing"] (defScope s_is_parcel_turned) := ⟨rfl, rfl, rfl, by decide +kernel, rfl, by decide +kernel, by decide +kernel⟩
theorem F_is_parcel_turned (T : Env w K mg) : Fx P w K mg base "is_parcel_turned" 3 ["heap", "thing"] (spTurnedP K) := by
  obtain ⟨fd, F⟩ := T.d_is_parcel_turned
  have F_is_order := F_is_order (P := P) (base := base) T
  have F_Heap_names := F_Heap_names (P := P) (base := base) T
  refine ⟨_, fd, T.glo_is_parcel_turned, F.kp, F.bindsN fun _ _ _ _ _ _ us hl => match us, hl with | [_, _], _ => rfl, ?_⟩
  refine F.ok sc_is_parcel_turned (fun vs H Q E h => ?_) (fun cdv A outer s H vs Q E hr h => ?_)
  · obtain ⟨a, dx, l, xs, ps, v, n, o, rfl, _⟩ := h
    rfl
  · obtain ⟨a, dx, l, xs, ps, v, n, o, rfl, hh, ⟨q, ⟨p, rfl, hp⟩, ho⟩, hn, k⟩ := h
    refine ⟨_, PSs.nox (pss_cons (ps_if (PW.pt (pw_or (pt_cmpR op_ne (pe_callB call_len_seq (by rfl) T.free_len (by decide +kernel) (pa_cons (pv 1) pa_nil)) pe_int (nomark _)) (pw_or1 (pt_not (pt_val (pe_callB call_isi (by rfl) T.free_isinstance (by decide +kernel) (pa_cons (pe_ix ix_tup (pv 1) pe_int (fun _ _ => rfl)) (pa_cons (pe_bltn (v := .ty "str") (u := .type "str") (by rfl) T.free_str (by decide +kernel) rfl) pa_nil)))))))) (pss_one (ps_ret pe_bl)) pss_nil) (pss_one (ps_ret (pe_and (pe_cmpR op_in_seq (pe_ix ix_tup (pv 1) pe_int (fun _ _ => rfl)) (pe_mx0 T.cls_Heap F_Heap_names (hr.mono (by decide)) (pv 0)) (by rfl)) (pe_one (pe_fx F_is_order (hr.mono (by decide)) rfl (pa_cons (pe_ix ix_tup (pv 1) pe_int (fun _ _ => rfl)) pa_nil))))))), ?_⟩
    refine ⟨_, rfl, p, _, rfl, .inr hp, rfl, _, rfl, iteF ⟨_, rfl, p, _, _, _, rfl, rfl, hp, rfl, _, _, .type "str", .type "str", true, rfl, .ty _, .base (.str _), kit_ty (by decide +kernel), _, rfl, iteF ?_⟩⟩
    refine ⟨_, rfl, p, _, _, _, rfl, rfl, hp, rfl, _, rfl, a, dx, _, rfl, hh.ins, rfl, a, dx, l, xs, ps, rfl, hh, fun D H1 s1 hD eD => ⟨D, _, rfl, .inl (SqL.of eD), rfl, flat_strs _, _, rfl, ?_⟩⟩
    rw [show (if false = true then !inV (V.str n) ((pNames ps).map V.str) else inV (V.str n) ((pNames ps).map V.str)) = inV (V.str n) ((pNames ps).map V.str) from rfl, inV_strs, decide_eq_true hn]
    refine iteT ⟨_, rfl, p, _, _, _, rfl, rfl, Same_tup s1 hp, rfl, q, o, rfl, ho.mono s1, fun H2 s2 => k _ (s1.trans s2)⟩
/-- the form of a laying, so deep at most -/
def spForm (K : PySem.W.Frag) (d : Nat) : Sp := fun vs H Q _ => ∃ a dx l xs ps v L, vs = [.ref a, v] ∧ HpAt K H a dx l xs ps ∧ LayAt K H v L ∧ L.depth ≤ d ∧ (∀ n ∈ L.names, n ∈ pNames ps) ∧ ∀ H', Same H H' → Q (.bl true) H'
def spTwoBy (K : PySem.W.Frag) (d : Nat) : Sp := fun vs H Q _ => ∃ a dx l xs ps v i L M, vs = [.ref a, v] ∧ HpAt K H a dx l xs ps ∧ LayAt K H v (.by_ i L M) ∧ L.depth ≤ d ∧ M.depth ≤ d ∧ (∀ n ∈ L.names ++ M.names, n ∈ pNames ps) ∧ ∀ H', Same H H' → Q (.bl true) H'
theorem sc_are_two_by : FnScope ["heap", "thing"] ["heap", "thing"] (defScope s_are_two_by) := ⟨rfl, rfl, rfl, by decide +kernel, rfl, by decide +kernel, by decide +kernel⟩
theorem F_are_two_by (T : Env w K mg) (d k0 : Nat) (hk0 : 1 ≤ k0) (F_has_form : Fx P w K mg base "has_form" k0 ["heap", "thing"] (spForm K d)) : Fx P w K mg base "are_two_by" (k0 + 1) ["heap", "thing"] (spTwoBy K d) := by
  obtain ⟨fd, F⟩ := T.d_are_two_by
  have F_is_whole := F_is_whole (P := P) (base := base) T
  refine ⟨_, fd, T.glo_are_two_by, F.kp, F.bindsN fun _ _ _ _ _ _ us hl => match us, hl with | [_, _], _ => rfl, ?_⟩
  refine F.ok sc_are_two_by (fun vs H Q E h => ?_) (fun cdv A outer s H vs Q E hr0 h => ?_)
  · obtain ⟨a, dx, l, xs, ps, v, i, L, M, rfl, _⟩ := h
    rfl
  · have hr := hr0
    obtain ⟨a, dx, l, xs, ps, v, i, L, M, rfl, hh, ⟨va, vb, ⟨p, rfl, hp⟩, ha, hb⟩, d1, d2, hn, k⟩ := h
    refine ⟨_, PSs.nox (pss_cons (ps_if (PW.pt (pw_or (pt_cmpR op_ne (pe_callB call_len_seq (by rfl) T.free_len (by decide +kernel) (pa_cons (pv 1) pa_nil)) pe_int (nomark _)) (pw_or1 (pt_not (pt_val (pe_fx F_is_whole (hr.mono (by omega)) rfl (pa_cons (pe_ix ix_tup (pv 1) pe_int (fun _ _ => rfl)) (pa_cons pe_int (pa_cons pe_int pa_nil))))))))) (pss_one (ps_ret pe_bl)) pss_nil) (pss_one (ps_ret (pe_and (pe_fx F_has_form (hr.mono (by omega)) rfl (pa_cons (pv 0) (pa_cons (pe_ix ix_tup (pv 1) pe_int (fun _ _ => rfl)) pa_nil))) (pe_one (pe_fx F_has_form (hr.mono (by omega)) rfl (pa_cons (pv 0) (pa_cons (pe_ix ix_tup (pv 1) pe_int (fun _ _ => rfl)) pa_nil)))))))), ?_⟩
    have i2 : (i.val : Int) ≤ 2 := by have := i.isLt; omega
    refine ⟨_, rfl, p, _, rfl, .inr hp, rfl, _, rfl, iteF ⟨_, rfl, p, _, _, _, rfl, rfl, hp, rfl, _, _, _, rfl, _, rfl, iteE false (by rw [bnd (by omega) i2]; rfl) ?_⟩⟩
    refine ⟨_, rfl, _, rfl, p, _, _, _, rfl, rfl, hp, rfl, a, dx, l, xs, ps, va, L, rfl, hh, ha, d1, fun n hn' => hn n (List.mem_append_left _ hn'), fun H1 s1 => ⟨_, rfl, iteT ?_⟩⟩
    exact ⟨_, rfl, _, rfl, p, _, _, _, rfl, rfl, Same_tup s1 hp, rfl, a, dx, l, xs, ps, vb, M, rfl, hh.mono s1, hb.mono s1, d2, fun n hn' => hn n (List.mem_append_right _ hn'), fun H2 s2 => k _ (s1.trans s2)⟩
theorem Fx.at_ {x : Str} {k : Nat} {ps : List Str} {sp : Sp} {a : Addr} (h : Fx P w K mg base x k ps sp) (g : mg x = some (.ref a)) : ∃ fd, PySem.W.keepIn K (.ref a) = true ∧ Binds K fd ps [] ∧ FnOk P w K mg base CX0 k a fd ps sp := by
  obtain ⟨f, fd, h1, h2, h3, h4⟩ := h
  rw [g] at h1
  cases h1
  exact ⟨fd, h2, h3, h4⟩
theorem forms_at (T : Env w K mg) : (∃ u, PySem.W.nsIn K (He.ga K "FORMS") "one" = some (some u) ∧ RelV (.ref (He.ga K "is_parcel_turned")) u) ∧ ∃ u, PySem.W.nsIn K (He.ga K "FORMS") "by" = some (some u) ∧ RelV (.ref (He.ga K "are_two_by")) u :=
  ⟨He.valsB_ok T.formsV (q := ("one", .glo "is_parcel_turned")) (by simp), He.valsB_ok T.formsV (q := ("by", .glo "are_two_by")) (by simp)⟩
theorem sc_has_form : FnScope ["heap", "thing", "look"] ["heap", "thing"] (defScope s_has_form) := ⟨rfl, rfl, rfl, by decide +kernel, rfl, by decide +kernel, by decide +kernel⟩
theorem ok_has_form (T : Env w K mg) (d k : Nat) (hk : 3 ≤ k) (F2 : ∀ d', d = d' + 1 → Fx P w K mg base "are_two_by" k ["heap", "thing"] (spTwoBy K d')) : Fx P w K mg base "has_form" (k + 1) ["heap", "thing"] (spForm K d) := by
  obtain ⟨fd, F⟩ := T.d_has_form
  have F1 := F_is_parcel_turned (P := P) (base := base) T
  obtain ⟨⟨u1, n1, r1⟩, u2, n2, r2⟩ := forms_at T
  obtain ⟨es, en, KD⟩ := T.forms
  refine ⟨_, fd, T.glo_has_form, F.kp, F.bindsN fun _ _ _ _ _ _ us hl => match us, hl with | [_, _], _ => rfl, ?_⟩
  refine F.ok sc_has_form (fun vs H Q E h => ?_) (fun cdv A outer s H vs Q E hr h => ?_)
  · obtain ⟨a, dx, l, xs, ps, v, L, rfl, _⟩ := h
    rfl
  · obtain ⟨a, dx, l, xs, ps, v, L, rfl, hh, hL, hd, hn, k⟩ := h
    cases L with
    | one n o =>
      obtain ⟨fd1, kp1, b1, f1⟩ := Fx.at_ F1 T.glo_is_parcel_turned
      refine ⟨_, PSs.nox (pss_cons (ps_if (PW.pt (pw_or (pt_not (pt_val (pe_callB call_isi (by rfl) T.free_isinstance (by decide +kernel) (pa_cons (pv 1) (pa_cons (pe_bltn (v := .ty "tuple") (u := .type "tuple") (by rfl) T.free_tuple (by decide +kernel) rfl) pa_nil))))) (pw_or1 (pt_cmpR op_eq (pe_callB call_len_seq (by rfl) T.free_len (by decide +kernel) (pa_cons (pv 1) pa_nil)) pe_int (nomark _))))) (pss_one (ps_ret pe_bl)) pss_nil) (pss_cons (ps_if (PW.pt (pw_or (pt_not (pt_val (pe_callB call_isi (by rfl) T.free_isinstance (by decide +kernel) (pa_cons (pe_ix ix_tup (pv 1) pe_int (fun _ _ => rfl)) (pa_cons (pe_bltn (v := .ty "str") (u := .type "str") (by rfl) T.free_str (by decide +kernel) rfl) pa_nil))))) (pw_or1 (pt_cmpR (op_notIn_kd KD) (pe_ix ix_tup (pv 1) pe_int (fun _ _ => rfl)) (C8.pe_gc (v := .ref (He.ga K "FORMS")) rfl ⟨_, T.glo_FORMS, rfl⟩) (by rfl))))) (pss_one (ps_ret pe_bl)) pss_nil) (pss_cons (ps_set (i := 2) sc_has_form.nd rfl (Or.inl rfl) (pe_ix ix_kdict (C8.pe_gc (v := .ref (He.ga K "FORMS")) rfl ⟨_, T.glo_FORMS, rfl⟩) (pe_ix ix_tup (pv 1) pe_int (fun _ _ => rfl)) (fun _ _ => rfl))) (pss_one (ps_ret (pe_callL (i := 2) f1 (hr.mono hk) rfl (Or.inl rfl) kp1 b1 .nil pass0 (pa_cons (pv 0) (pa_cons (pv 1) pa_nil)))))))), ?_⟩
      obtain ⟨q, ⟨p, rfl, hp⟩, ho⟩ := id hL
      refine ⟨_, rfl, _, _, .type "tuple", .type "tuple", true, rfl, .ty _, ty_tup hp, kit_ty (by decide +kernel), _, rfl, iteF ?_⟩
      refine ⟨_, rfl, p, _, rfl, .inr hp, rfl, _, rfl, iteF ?_⟩
      refine ⟨_, rfl, p, _, _, _, rfl, rfl, hp, rfl, _, _, .type "str", .type "str", true, rfl, .ty _, .base (.str _), kit_ty (by decide +kernel), _, rfl, iteF ?_⟩
      refine ⟨_, rfl, p, _, _, _, rfl, rfl, hp, rfl, _, _, rfl, rfl, n1, _, rfl, iteF ?_⟩
      refine ⟨_, rfl, p, _, _, _, rfl, rfl, hp, rfl, _, _, _, rfl, rfl, ⟨es, en, u1, KD.at_, KD.lit, n1, r1⟩, ?_⟩
      exact ⟨rfl, _, rfl, _, rfl, a, dx, l, xs, ps, _, n, o, rfl, hh, hL, hn n (List.mem_cons_self ..), k⟩
    | by_ i L M =>
      obtain ⟨d', rfl⟩ : ∃ d', d = d' + 1 := ⟨d - 1, by have : max L.depth M.depth + 1 ≤ d := hd; omega⟩
      have hd2 : max L.depth M.depth + 1 ≤ d' + 1 := hd
      obtain ⟨fd1, kp1, b1, f1⟩ := Fx.at_ (F2 d' rfl) T.glo_are_two_by
      refine ⟨_, PSs.nox (pss_cons (ps_if (PW.pt (pw_or (pt_not (pt_val (pe_callB call_isi (by rfl) T.free_isinstance (by decide +kernel) (pa_cons (pv 1) (pa_cons (pe_bltn (v := .ty "tuple") (u := .type "tuple") (by rfl) T.free_tuple (by decide +kernel) rfl) pa_nil))))) (pw_or1 (pt_cmpR op_eq (pe_callB call_len_seq (by rfl) T.free_len (by decide +kernel) (pa_cons (pv 1) pa_nil)) pe_int (nomark _))))) (pss_one (ps_ret pe_bl)) pss_nil) (pss_cons (ps_if (PW.pt (pw_or (pt_not (pt_val (pe_callB call_isi (by rfl) T.free_isinstance (by decide +kernel) (pa_cons (pe_ix ix_tup (pv 1) pe_int (fun _ _ => rfl)) (pa_cons (pe_bltn (v := .ty "str") (u := .type "str") (by rfl) T.free_str (by decide +kernel) rfl) pa_nil))))) (pw_or1 (pt_cmpR (op_notIn_kd KD) (pe_ix ix_tup (pv 1) pe_int (fun _ _ => rfl)) (C8.pe_gc (v := .ref (He.ga K "FORMS")) rfl ⟨_, T.glo_FORMS, rfl⟩) (by rfl))))) (pss_one (ps_ret pe_bl)) pss_nil) (pss_cons (ps_set (i := 2) sc_has_form.nd rfl (Or.inl rfl) (pe_ix ix_kdict (C8.pe_gc (v := .ref (He.ga K "FORMS")) rfl ⟨_, T.glo_FORMS, rfl⟩) (pe_ix ix_tup (pv 1) pe_int (fun _ _ => rfl)) (fun _ _ => rfl))) (pss_one (ps_ret (pe_callL (i := 2) f1 hr rfl (Or.inl rfl) kp1 b1 .nil pass0 (pa_cons (pv 0) (pa_cons (pv 1) pa_nil)))))))), ?_⟩
      obtain ⟨va, vb, ⟨p, rfl, hp⟩, ha, hb⟩ := id hL
      refine ⟨_, rfl, _, _, .type "tuple", .type "tuple", true, rfl, .ty _, ty_tup hp, kit_ty (by decide +kernel), _, rfl, iteF ?_⟩
      refine ⟨_, rfl, p, _, rfl, .inr hp, rfl, _, rfl, iteF ?_⟩
      refine ⟨_, rfl, p, _, _, _, rfl, rfl, hp, rfl, _, _, .type "str", .type "str", true, rfl, .ty _, .base (.str _), kit_ty (by decide +kernel), _, rfl, iteF ?_⟩
      refine ⟨_, rfl, p, _, _, _, rfl, rfl, hp, rfl, _, _, rfl, rfl, n2, _, rfl, iteF ?_⟩
      refine ⟨_, rfl, p, _, _, _, rfl, rfl, hp, rfl, _, _, _, rfl, rfl, ⟨es, en, u2, KD.at_, KD.lit, n2, r2⟩, ?_⟩
      exact ⟨rfl, _, rfl, _, rfl, a, dx, l, xs, ps, _, i, L, M, rfl, hh, hL, by omega, by omega, hn, k⟩
theorem F_has_form (T : Env w K mg) : ∀ d, Fx P w K mg base "has_form" (4 + 2 * d) ["heap", "thing"] (spForm K d)
  | 0 => ok_has_form T 0 3 (Nat.le_refl _) fun d' e => absurd e (by omega)
  | d + 1 => by
    have h := F_are_two_by T d (4 + 2 * d) (by omega) (F_has_form T d)
    exact ok_has_form T (d + 1) (4 + 2 * d + 1) (by omega) fun d' e => by
      obtain rfl : d' = d := by omega
      exact h
end
end Bx
set_option Elab.async false
set_option linter.all false
set_option maxRecDepth 100000
set_option maxHeartbeats 4000000
/-! BxL2: layings, II. -/
namespace Bx
open PySem PySem.Spec PyProof.Rows L2
theorem eq_str {a b : Str} {Q : Bool → Prop} (h : Q (decide (a = b))) : Q (decide (V.str a = V.str b)) := by
  have e : decide (V.str a = V.str b) = decide (a = b) := by
    by_cases z : a = b
    · rw [z]
      simp
    · rw [decide_eq_false z]
      exact decide_eq_false fun q => z (by injection q)
  rw [e]
  exact h
section
variable {P : Program} {w : World} {K : PySem.W.Frag} {mg : Str → Option Value} {base : Heap}
/-! ### names_in -/
def spNamesIn (K : PySem.W.Frag) (d : Nat) : Sp := fun vs H Q _ => ∃ v L, vs = [v] ∧ LayAt K H v L ∧ L.depth ≤ d ∧ L.names.length ≤ 12 ∧ ∀ D H', Same H H' → H D = none → H' D = some (.lst (L.names.map V.str)) → Q (.ref D) H'
theorem sc_names_in : FnScope ["laying"] ["laying"] (defScope s_names_in) := ⟨rfl, rfl, rfl, by decide +kernel, rfl, by decide +kernel, by decide +kernel⟩
theorem ok_names_in (T : Env w K mg) (d k : Nat) (F2 : ∀ d', d = d' + 1 → Fx P w K mg base "names_in" k ["laying"] (spNamesIn K d')) : Fx P w K mg base "names_in" (k + 1) ["laying"] (spNamesIn K d) := by
  obtain ⟨fd, F⟩ := T.d_names_in
  refine ⟨_, fd, T.glo_names_in, F.kp, F.bindsN fun _ _ _ _ _ _ us hl => match us, hl with | [_], _ => rfl, ?_⟩
  refine F.ok sc_names_in (fun vs H Q E h => ?_) (fun cdv A outer s H vs Q E hr h => ?_)
  · obtain ⟨v, L, rfl, _⟩ := h
    rfl
  · obtain ⟨v, L, rfl, hL, hd, h12, k⟩ := h
    cases L with
    | one n o =>
      refine ⟨_, PSs.nox (pss_cons (ps_if (pt_cmpR op_eq (pe_ix ix_tup (pv 0) pe_int (fun _ _ => rfl)) pe_str (nomark _)) (pss_one (ps_ret (pe_lst (pa_cons (pe_ix ix_tup (pv 0) pe_int (fun _ _ => rfl)) pa_nil)))) pss_nil) pss_never), ?_⟩
      obtain ⟨q, ⟨p, rfl, hp⟩, ho⟩ := id hL
      refine ⟨_, rfl, p, _, _, _, rfl, rfl, hp, rfl, rfl, _, rfl, iteT ⟨_, rfl, p, _, _, _, rfl, rfl, hp, rfl, (by show 1 ≤ sizeLine; decide), fun D hD => k D _ (same_upd hD) hD upd_same⟩⟩
    | by_ i L M =>
      have hd2 : max L.depth M.depth + 1 ≤ d := hd
      obtain ⟨d', rfl⟩ : ∃ d', d = d' + 1 := ⟨d - 1, by omega⟩
      have F_names_in := F2 d' rfl
      have hl : L.names.length + M.names.length ≤ 12 := by
        have : (L.names ++ M.names).length ≤ 12 := h12
        rwa [List.length_append] at this
      refine ⟨_, PSs.nox (pss_cons (ps_if (pt_cmpR op_eq (pe_ix ix_tup (pv 0) pe_int (fun _ _ => rfl)) pe_str (nomark _)) (pss_one (ps_ret (pe_lst (pa_cons (pe_ix ix_tup (pv 0) pe_int (fun _ _ => rfl)) pa_nil)))) pss_nil) (pss_one (ps_ret (pe_op op_cat (pe_fx F_names_in hr rfl (pa_cons (pe_ix ix_tup (pv 0) pe_int (fun _ _ => rfl)) pa_nil)) (pe_fx F_names_in hr rfl (pa_cons (pe_ix ix_tup (pv 0) pe_int (fun _ _ => rfl)) pa_nil)))))), ?_⟩
      obtain ⟨va, vb, ⟨p, rfl, hp⟩, ha, hb⟩ := id hL
      refine ⟨_, rfl, p, _, _, _, rfl, rfl, hp, rfl, rfl, _, rfl, iteF ?_⟩
      refine ⟨_, rfl, p, _, _, _, rfl, rfl, hp, rfl, va, L, rfl, ha, by omega, by omega, fun D1 H1 s1 n1 e1 => ?_⟩
      refine ⟨_, rfl, p, _, _, _, rfl, rfl, Same_tup s1 hp, rfl, vb, M, rfl, hb.mono s1, by omega, by omega, fun D2 H2 s2 n2 e2 => ?_⟩
      refine ⟨D1, D2, _, _, rfl, rfl, s2 _ _ e1, e2, ?_, fun D3 n3 => ?_⟩
      · rw [List.length_map, List.length_map]
        exact Nat.le_trans hl (by decide)
      · refine k D3 _ (s1.trans (s2.trans (same_upd n3))) (s1.free (s2.free n3)) ?_
        rw [upd_same, ← List.map_append]
        rfl
theorem F_names_in (T : Env w K mg) : ∀ d, Fx P w K mg base "names_in" (d + 1) ["laying"] (spNamesIn K d)
  | 0 => ok_names_in T 0 0 fun d' e => absurd e (by omega)
  | d + 1 => ok_names_in T (d + 1) (d + 1) fun d' e => by
    obtain rfl : d' = d := by omega
    exact F_names_in T d'
/-! ### beside -/
theorem walk_zipT {a b : Addr} {xs ys : List V} {n : Nat} (hn : n = min xs.length ys.length) : Walk (RZ.ItzT K a b) n (fun H => SqT K H a xs ∧ SqT K H b ys) (YPair (fun i => xs[i]?) (fun i => ys[i]?)) := by
  subst hn
  refine ⟨fun i H hi q => ?_, fun H q => ?_, fun i H v H' hi q y => ?_⟩
  · have h1 : i < xs.length := by omega
    have h2 : i < ys.length := by omega
    exact ⟨xs, ys, xs[i], ys[i], q.1, q.2, List.getElem?_eq_getElem h1, List.getElem?_eq_getElem h2⟩
  · exact ⟨xs, ys, q.1, q.2, by omega⟩
  · obtain ⟨t, x, z, h1, h2, h3, h4, h5⟩ := y
    exact ⟨t, x, z, h1, h2, h3, h4 xs q.1, h5 ys q.2⟩
theorem same_over {H A : Hp} {D : Addr} {u : HO} (s : Same H A) (h : H D = none) : Same H (upd A D u) := fun b v e => by
  rw [upd_ne (ne_of_none e h)]
  exact s _ _ e
def maxT (a b : T3) : T3 := ⟨max a.x b.x, max a.y b.y, max a.z b.z⟩
theorem v3_get {t : T3} {i : Nat} {x : V} (e : t.v[i]? = some x) : ∃ k : Fin 3, k.val = i ∧ x = .int (t.get k) := by
  match i, e with
  | 0, e => exact ⟨0, rfl, (Option.some.inj e).symm⟩
  | 1, e => exact ⟨1, rfl, (Option.some.inj e).symm⟩
  | 2, e => exact ⟨2, rfl, (Option.some.inj e).symm⟩
  | _ + 3, e => cases e
theorem max_if (i j : Int) : (if j > i then j else i) = max i j := by
  split <;> omega
theorem maxT_take (a b : T3) (k : Fin 3) : (maxT a b).v.take (k.val + 1) = (maxT a b).v.take k.val ++ [V.int (if b.get k > a.get k then b.get k else a.get k)] := by
  rw [max_if]
  match k with
  | 0 => rfl
  | 1 => rfl
  | 2 => rfl
theorem t3_ix : ∀ k : Fin 3, ixN 3 (k.val : Int) = some k.val := by decide
theorem put_v (t : T3) (k : Fin 3) (u : Int) : t.v.set k.val (.int u) = (t.put k u).v := by
  match k with
  | 0 => rfl
  | 1 => rfl
  | 2 => rfl
def spBeside (K : PySem.W.Frag) : Sp := fun vs H Q _ => ∃ va vb a b k, vs = [va, vb, .int ((k : Fin 3).val : Int)] ∧ T3At K H va a ∧ T3At K H vb b ∧ ∀ r H', Same H H' → T3At K H' r (beside a b k) → Q r H'
theorem sc_beside : FnScope ["first", "second", "axis", "three", "one", "other"] ["first", "second", "axis"] (defScope s_beside) := ⟨rfl, rfl, rfl, by decide +kernel, rfl, by decide +kernel, by decide +kernel⟩
theorem F_beside (T : Env w K mg) : Fx P w K mg base "beside" 1 ["first", "second", "axis"] (spBeside K) := by
  obtain ⟨fd, F⟩ := T.d_beside
  refine ⟨_, fd, T.glo_beside, F.kp, F.bindsN fun _ _ _ _ _ _ us hl => match us, hl with | [_, _, _], _ => rfl, ?_⟩
  refine F.ok sc_beside (fun vs H Q E h => ?_) (fun cdv A outer s H vs Q E hr h => ?_)
  · obtain ⟨va, vb, a, b, k, rfl, _⟩ := h
    rfl
  · obtain ⟨va, vb, a, b, i, rfl, ⟨p, rfl, hp⟩, ⟨q, rfl, hq⟩, k⟩ := h
    refine ⟨_, PSs.nox (pss_cons (ps_setLc (i := 3) (own := [("one", 4), ("other", 5)])  (tt := tYes) (by rfl) sc_beside.nd rfl rfl (sw_true rfl rfl rfl (by decide +kernel)) (RZ.pi_zipA (by rfl) T.free_zip (pa_cons (pv 0) (pa_cons (pv 1) pa_nil))) (blkOk_by (own := [("one", 4), ("other", 5)]) (N := ["first", "second", "axis", "three", "one", "other"]) (sc := defScope s_beside) (by decide +kernel)) (fun _ _ _ _ _ => (pg_tupK K 2 (by rfl) (pgs_cons (pg_name (i := 4) sc_beside.nd rfl (Or.inl rfl)) (pgs_cons (pg_name (i := 5) sc_beside.nd rfl (Or.inl rfl)) pgs_nil)))) (fun _ _ _ _ _ => pts_nil) (fun _ _ _ _ _ => (pe_callB (call_max2 rfl) (by rfl) T.free_max (by decide +kernel) (pa_cons (pv 4) (pa_cons (pv 5) pa_nil))))) (pss_cons (ps_asg (pe_op op_add (pe_ix ix_tup (pv 0) (pv 2) (fun _ _ => rfl)) (pe_ix ix_tup (pv 1) (pv 2) (fun _ _ => rfl))) (pg_sub (pv 3) (pv 2) set_list)) (pss_one (ps_ret (pe_callTy call_tuple_of (by rfl) T.free_tuple (by decide +kernel) (pa_cons (pv 3) pa_nil)))))), ?_⟩
    refine ⟨_, rfl, _, rfl, p, q, a.v, b.v, rfl, .inr ⟨hp, hq, fun D hD => lc_acc (walk_zipT (n := 3) rfl) [] (fun _ _ => True) (fun j acc _ => acc = (maxT a b).v.take j) hD (by simp) (fun _ _ _ _ => trivial) trivial rfl (fun A s1 => ⟨Same_tup s1.same hp, Same_tup s1.same hq⟩) ?_ ?_⟩⟩
    · intro j x A B acc hj s1 _ e pa y Kt Kf kt _
      obtain ⟨tq, x1, x2, rfl, ht, rfl, e1, e2⟩ := y
      obtain ⟨kk, rfl, rfl⟩ := v3_get e1
      obtain ⟨k2, h2, rfl⟩ := v3_get e2
      obtain rfl : k2 = kk := Fin.ext h2
      refine ⟨tq, _, rfl, SqT.of upd_same, rfl, _, _, rfl, _, _, rfl, rfl, rfl, iteT (B := Kf (upd A tq (.tup [V.int (a.get k2), V.int (b.get k2)]))) ⟨_, rfl, _, rfl, _, _, rfl, kt _ _ (Same_sm (same_upd ht)) (by rw [pa]; exact Nat.lt_of_le_of_lt (List.length_take_le _ _) (by have := k2.isLt; exact Nat.lt_of_lt_of_le this (by decide))) trivial ?_⟩⟩
      rw [pa, maxT_take]
    · intro A acc s1 _ e pa
      have e2 : A D = some (.lst (maxT a b).v) := e.trans (by rw [pa]; rfl)
      have hp1 := Same_tup s1.same hp
      have hq1 := Same_tup s1.same hq
      refine ⟨_, rfl, _, rfl, p, _, _, _, rfl, rfl, hp1, t3_at a i, _, rfl, _, rfl, q, _, _, _, rfl, rfl, hq1, t3_at b i, _, _, rfl, rfl, ?_⟩
      refine ⟨_, rfl, _, rfl, D, _, _, i.val, rfl, rfl, e2, t3_ix i, ?_⟩
      refine ⟨_, rfl, D, _, rfl, .inl ⟨SqL.of upd_same, fun l hl => k _ _ ?_ ⟨l, rfl, SqT.of ?_⟩⟩⟩
      · exact (same_over s1.same hD).trans (same_upd hl)
      · rw [upd_same]
        exact congrArg (fun z => some (HO.tup z)) (put_v _ i _)
/-! ### the three sides -/
/-- S tells the sides of the heap's parcels by name -/
def SaysT (S : Str → T3) (ps : List Par) : Prop := ∀ p ∈ ps, S p.name = p.t ∧ okPar p
def spThreeOf (K : PySem.W.Frag) (d : Nat) : Sp := fun vs H Q _ => ∃ a dx l xs ps v L S, vs = [.ref a, v] ∧ HpAt K H a dx l xs ps ∧ SaysT S ps ∧ LayAt K H v L ∧ L.depth ≤ d ∧ (∀ n ∈ L.names, n ∈ pNames ps) ∧ ∀ r H', Same H H' → T3At K H' r (L.span S) → Q r H'
theorem sc_three_of : FnScope ["heap", "laying"] ["heap", "laying"] (defScope s_three_of) := ⟨rfl, rfl, rfl, by decide +kernel, rfl, by decide +kernel, by decide +kernel⟩
theorem ok_three_of (T : Env w K mg) (d k : Nat) (hk : 5 ≤ k) (F2 : ∀ d', d = d' + 1 → Fx P w K mg base "three_of" k ["heap", "laying"] (spThreeOf K d')) : Fx P w K mg base "three_of" (k + 1) ["heap", "laying"] (spThreeOf K d) := by
  obtain ⟨fd, F⟩ := T.d_three_of
  have F_Heap_parcel := F_Heap_parcel (P := P) (base := base) T
  have F_Parcel_sides := F_Parcel_sides (P := P) (base := base) T
  have F_Sides_turned := F_Sides_turned (P := P) (base := base) T
  have F_Sides_told := F_Sides_told (P := P) (base := base) T
  have F_beside := F_beside (P := P) (base := base) T
  refine ⟨_, fd, T.glo_three_of, F.kp, F.bindsN fun _ _ _ _ _ _ us hl => match us, hl with | [_, _], _ => rfl, ?_⟩
  refine F.ok sc_three_of (fun vs H Q E h => ?_) (fun cdv A outer s H vs Q E hr h => ?_)
  · obtain ⟨a, dx, l, xs, ps, v, L, S, rfl, _⟩ := h
    rfl
  · obtain ⟨a, dx, l, xs, ps, v, L, S, rfl, hh, hS, hL, hd, hn, k0⟩ := h
    cases L with
    | one n o =>
      refine ⟨_, PSs.nox (pss_cons (ps_if (pt_cmpR op_eq (pe_ix ix_tup (pv 1) pe_int (fun _ _ => rfl)) pe_str (nomark _)) (pss_one (ps_ret (pe_mx0 T.cls_Sides F_Sides_told (hr.mono (by omega)) (pe_mx T.cls_Sides F_Sides_turned (hr.mono (by omega)) (pe_mx0 T.cls_Parcel F_Parcel_sides (hr.mono (by omega)) (pe_mx T.cls_Heap F_Heap_parcel (hr.mono (by omega)) (pv 0) (pa_cons (pe_ix ix_tup (pv 1) pe_int (fun _ _ => rfl)) pa_nil))) (pa_cons (pe_ix ix_tup (pv 1) pe_int (fun _ _ => rfl)) pa_nil))))) pss_nil) pss_never), ?_⟩
      obtain ⟨q, ⟨p, rfl, hp⟩, ho⟩ := id hL
      refine ⟨_, rfl, p, _, _, _, rfl, rfl, hp, rfl, rfl, _, rfl, iteT ?_⟩
      refine ⟨_, rfl, a, dx, _, rfl, hh.ins, rfl, _, rfl, p, _, _, _, rfl, rfl, hp, rfl, a, dx, l, xs, ps, n, rfl, hh, hn n (List.mem_cons_self ..), fun u pr H1 e1 e2 s1 hu => ?_⟩
      obtain ⟨ua, udx, sv, m, rfl, hua, _⟩ := id hu
      have hpr := hS pr (List.mem_of_getElem? e1)
      refine ⟨ua, udx, _, rfl, hua, rfl, _, pr, rfl, hu, fun u2 hu2 => ?_⟩
      obtain ⟨sa, sdx, sq, rfl, hsa, _⟩ := id hu2
      refine ⟨sa, sdx, _, rfl, hsa, rfl, _, rfl, p, _, _, _, rfl, rfl, Same_tup s1 hp, rfl, _, _, pr.t, o, rfl, hu2, ho.mono s1, hpr.2.2.1, fun u3 H2 s2 hu3 => ?_⟩
      obtain ⟨ta, tdx, tq, rfl, hta, _⟩ := id hu3
      refine ⟨ta, tdx, _, rfl, hta, rfl, _, _, rfl, hu3, fun u4 hu4 => k0 _ _ (s1.trans s2) ?_⟩
      show T3At K H2 u4 ((S n).turn o)
      rw [← e2, hpr.1]
      exact hu4
    | by_ i L M =>
      have hd2 : max L.depth M.depth + 1 ≤ d := hd
      obtain ⟨d', rfl⟩ : ∃ d', d = d' + 1 := ⟨d - 1, by omega⟩
      have F_three_of := F2 d' rfl
      refine ⟨_, PSs.nox (pss_cons (ps_if (pt_cmpR op_eq (pe_ix ix_tup (pv 1) pe_int (fun _ _ => rfl)) pe_str (nomark _)) (pss_one ps_never) pss_nil) (pss_one (ps_ret (pe_fx F_beside (hr.mono (by omega)) rfl (pa_cons (pe_fx F_three_of (hr.mono (by omega)) rfl (pa_cons (pv 0) (pa_cons (pe_ix ix_tup (pv 1) pe_int (fun _ _ => rfl)) pa_nil))) (pa_cons (pe_fx F_three_of (hr.mono (by omega)) rfl (pa_cons (pv 0) (pa_cons (pe_ix ix_tup (pv 1) pe_int (fun _ _ => rfl)) pa_nil))) (pa_cons (pe_ix ix_tup (pv 1) pe_int (fun _ _ => rfl)) pa_nil))))))), ?_⟩
      obtain ⟨va, vb, ⟨p, rfl, hp⟩, ha, hb⟩ := id hL
      refine ⟨_, rfl, p, _, _, _, rfl, rfl, hp, rfl, rfl, _, rfl, iteF ?_⟩
      refine ⟨_, rfl, _, rfl, p, _, _, _, rfl, rfl, hp, rfl, a, dx, l, xs, ps, va, L, S, rfl, hh, hS, ha, by omega, fun n h => hn n (List.mem_append_left _ h), fun r1 H1 s1 t1 => ?_⟩
      refine ⟨_, rfl, _, rfl, p, _, _, _, rfl, rfl, Same_tup s1 hp, rfl, a, dx, l, xs, ps, vb, M, S, rfl, hh.mono s1, hS, hb.mono s1, by omega, fun n h => hn n (List.mem_append_right _ h), fun r2 H2 s2 t2 => ?_⟩
      refine ⟨_, rfl, p, _, _, _, rfl, rfl, Same_tup (s1.trans s2) hp, rfl, _, _, _, _, i, rfl, t1.mono s2, t2, fun r3 H3 s3 t3 => k0 _ _ (s1.trans (s2.trans s3)) t3⟩
theorem F_three_of (T : Env w K mg) : ∀ d, Fx P w K mg base "three_of" (d + 6) ["heap", "laying"] (spThreeOf K d)
  | 0 => ok_three_of T 0 5 (by omega) fun d' e => absurd e (by omega)
  | d + 1 => ok_three_of T (d + 1) (d + 6) (by omega) fun d' e => by
    obtain rfl : d' = d := by omega
    exact F_three_of T d'
end
end Bx
set_option Elab.async false
set_option linter.all false
set_option maxRecDepth 100000
set_option maxHeartbeats 4000000
/-! BxT: walks that give new pairs: enumerate(tuple), zip(list, tuple), items() of a dict with tuple keys. -/
namespace Bx
open PySem PySem.Spec PyProof.Rows L2
/-- n turns while G stands, each a new pair of f and g at its place -/
def ItX (n : Nat) (G : Hp → Prop) (f g : Nat → Option V) : It := ⟨fun i H => i < n ∧ G H, fun i H v H' => YPair f g i H v H', fun i H => i = n ∧ G H⟩
theorem walk_pair {n : Nat} {G : Hp → Prop} {f g : Nat → Option V} : Walk (ItX n G f g) n G (YPair f g) := ⟨fun _ _ hi q => ⟨hi, q⟩, fun _ q => ⟨rfl, q⟩, fun _ _ _ _ _ _ y => y⟩
/-- what the library's iterator of new pairs tells, found again at each turn -/
structure PairSrc (P : Program) (w : World) (A : Around) (tg : Expr) (it : Addr) (fp : List Addr) (tn : Nat → Heap → Prop) (i : Nat) (h : Heap) (H : Hp) (J : It) (last : Bool) : Prop where
  ex : ∃ (n : Nat) (Y : Nat → Heap → Value → Heap → Prop) (fpN wr : List Addr) (St : Nat → Heap → Prop), GoesN P w A tg it fpN wr n Y St ∧ St i h ∧ (∀ b ∈ wr, b ∈ fp) ∧ (∀ h', St (i + 1) h' → tn (i + 1) h') ∧ (if last = true then i = n else i < n) ∧
    ∀ h0 v h', Y i h0 v h' → ∃ T x y ux uy, v = .ref T ∧ h0.objs.size ≤ T ∧ h'.IsTuple T #[ux, uy] ∧ RelV x ux ∧ RelV y uy ∧ ∀ T', H T' = none → J.yld i H (.ref T') (upd H T' (.tup [x, y]))
theorem turn_of {P : Program} {w : World} {K : PySem.W.Frag} {tg : Expr} {J : It} {fp : List Addr} {it : Addr} {tn : Nat → Heap → Prop} (mem : it ∈ fp) (obj : ∀ i h, tn i h → ∀ b ∈ fp, ∃ o, h.get? b = some o ∧ ∀ v, o.data ≠ .cell v)
    (keep : ∀ i h h', tn i h → (∀ b ∈ fp, ∀ o, h.get? b = some o → h'.get? b = some o) → tn i h') (self : ∀ (A : Around) (i : Nat) (s : Shared) (Q : Value → Shared → Prop) (E : Value → Shared → Prop), tn i s.heap → Q (.ref it) s → wpAny (model P w) A (pyIter (.ref it)) Q E s)
    (goes : ∀ (X : Cx), X.prog = P → X.w = w → X.K = K → X.calm = true → ∀ i pins s σ H, Inv X pins σ H s → tn i s.heap → J.go i H → PairSrc P w X.A tg it fp tn i s.heap H J false)
    (stops : ∀ (X : Cx), X.prog = P → X.w = w → X.K = K → X.calm = true → ∀ i pins s σ H, Inv X pins σ H s → tn i s.heap → J.stop i H → PairSrc P w X.A tg it fp tn i s.heap H J true) : Turn P w K tg J fp it tn where
  mem := mem
  obj := obj
  keep := keep
  self := self
  item := by
    intro X hP hw hK hc i pins s σ H E I hf st hg
    obtain ⟨n, Y, fpN, wr, St, W, hst, hwr, hnext, hlt, hy⟩ := (goes X hP hw hK hc i pins s σ H I st hg).ex
    subst hP hw hK
    refine W.goes i s _ E hlt hst fun v h' tk hY st' hk htk => ?_
    obtain ⟨T, x, y, ux, uy, rfl, hT, hTu, rx, ry, yl⟩ := hy _ _ _ hY
    have hn : H T = none := I.hok.fresh hT
    have new : ObjOk X.prog X.w (upd H T (.tup [x, y])) h' T (.tup [x, y]) := by
      obtain ⟨o, ho, hcl, m, hd⟩ := hTu
      exact ⟨by show 2 ≤ sizeLine; decide, [ux, uy], .cons rx (.cons ry .nil), o, ho, hcl, m, hd⟩
    refine ⟨.ref T, _, I.turnedNew (t' := tk) hk (fun b hb => hf b (hwr b hb)) hT new, rfl, yl T hn, hnext _ st', fun b hb => ?_⟩
    obtain ⟨o, ho, _⟩ := obj i s.heap st b hb
    rw [upd_ne (Nat.ne_of_lt (Nat.lt_of_lt_of_le (Heap.lt_size ho) hT))]
    exact (hf b hb).1
  done := by
    intro X hP hw hK hc i pins s σ H E I hf st hg
    obtain ⟨n, Y, fpN, wr, St, W, hst, hwr, hnext, hlt, hy⟩ := (stops X hP hw hK hc i pins s σ H I st hg).ex
    subst hP hw hK
    have e : i = n := hlt
    subst e
    exact W.stops s _ E hst fun h' tk hk htk => I.turnedL (t' := tk) hk fun b hb => hf b (hwr b hb)
/-! ### enumerate(tuple) -/
/-- the record that enumerate lays over the iterator at b -/
abbrev enumO (b : Addr) : Obj := { cls := .type "enumerate", data := .fields #[.none, .bool false, .ref b, rawInt 0, .none, .none] }
theorem meets_enum1 {v : Value} {o : Obj} {G : Heap → Prop} (B : Begins v o G) :
    Meets (Builtin.«enumerate.__new__» ⟨[.type "enumerate", v], []⟩) fun _ R s => G s.heap ∧ R (.ok (.ret (.ref (s.heap.push o).objs.size))) { s with heap := (s.heap.push o).push (enumO s.heap.objs.size) } := by
  refine .of_wp fun prog w A R s h => ?_
  obtain ⟨hp, g, d, tk, os⟩ := s
  obtain ⟨h1, h⟩ := h
  have k1 := sub_enumerate
  have k2 : ∀ {A' : Around} {E : Value → Shared → Prop} {Q : Value → Shared → Prop}, Q (.ref hp.objs.size) ⟨hp.push o, g, d, tk, os⟩ → wpAny (model prog w) A' (pyIter v) Q E ⟨hp, g, d, tk, os⟩ := fun q => B.iter prog w _ _ ⟨hp, g, d, tk, os⟩ _ h1 q
  wp_walk using k2
  refine wpAny_stack_any fun st => wpAny_pure ?_
  split
  · rename_i c _ _ _ _ _
    cases (c == Value.type "enumerate") <;>
      (wp_walk using k2
       exact ⟨_, rfl, h⟩)
  · wp_walk using k2
    exact ⟨_, rfl, h⟩
theorem enum1_begins {prog : Program} {w : World} {A : Around} {E : Value → Shared → Prop} {s : Shared} {v : Value} {o : Obj} {G : Heap → Prop} {Q : Value → Shared → Prop} (B : Begins v o G) (h1 : G s.heap)
    (h : ∀ h', IsEnum h' (s.heap.objs.size + 1) s.heap.objs.size 0 .none → h'.get? s.heap.objs.size = some o → (∀ b ob, s.heap.get? b = some ob → h'.get? b = some ob) → Q (.ref (s.heap.objs.size + 1)) { s with heap := h' }) : wpAny (model prog w) A (call (.type "enumerate") [v]) Q E s := by
  refine callType_new PySem.F.called_enumerate (by decide) (PySem.F.typeCall_enumerate_1 _) (PySem.F.newCall_enumerate_1 _) (fun obj => PySem.F.args_object_init_2 obj _) PySem.F.entry_enumerate_new (meets_enum1 B) ⟨h1, ?_⟩
  have hz : (s.heap.push o).objs.size = s.heap.objs.size + 1 := Heap.size_push ..
  have he : IsEnum ((s.heap.push o).push (enumO s.heap.objs.size)) (s.heap.objs.size + 1) s.heap.objs.size 0 .none := by
    have e := Heap.get?_push_size (s.heap.push o) (o := enumO s.heap.objs.size) rfl
    rw [hz] at e
    exact e
  show _ ∧ _
  rw [hz]
  exact ⟨⟨_, he, rfl⟩, h _ he (Heap.get?_push_of_some _ (Heap.get?_push_size _ B.free)) fun b ob x => Heap.get?_push_of_some _ (Heap.get?_push_of_some _ x)⟩
abbrev ItEnT (K : PySem.W.Frag) (a : Addr) (xs : List V) : It := ItX xs.length (fun H => SqT K H a xs) (fun i => some (.int (i : Nat))) (fun i => xs[i]?)
theorem turn_enumT {P : Program} {w : World} {K : PySem.W.Frag} {elts : List Expr} {kk : Nat} {tpos : Pos} {xs : List V} (a e it : Addr) :
    Turn P w K (.Tuple elts kk tpos) (ItEnT K a xs) [e, it] e (fun i h => (∃ old, IsEnum h e it (0 + (i : Int)) old) ∧ h.IsTupleIter it a i ∧ e ≠ it ∧ a ≠ it ∧ a ≠ e) := by
  have src : ∀ (X : Cx), X.prog = P → X.w = w → X.K = K → X.calm = true → ∀ (i : Nat) pins s σ H, Inv X pins σ H s → ((∃ old, IsEnum s.heap e it (0 + (i : Int)) old) ∧ s.heap.IsTupleIter it a i ∧ e ≠ it ∧ a ≠ it ∧ a ≠ e) → SqT K H a xs → ∀ last : Bool, (if last = true then i = xs.length else i < xs.length) →
      PairSrc P w X.A (.Tuple elts kk tpos) e [e, it] (fun i h => (∃ old, IsEnum h e it (0 + (i : Int)) old) ∧ h.IsTupleIter it a i ∧ e ≠ it ∧ a ≠ it ∧ a ≠ e) i s.heap H (ItEnT K a xs) last := by
    intro X hP hw hK hc i pins s σ H I ⟨he, hi, n1, n2, n3⟩ hq last hl
    subst hP hw hK
    obtain ⟨its, rv, hT, hz⟩ := I.tuple hq
    have D := Draws.tuple (prog := X.prog) (w := X.w) (A := X.A.in1) (I.ok.hd hc) it a n2 its.toArray
    refine ⟨_, _, _, _, _, GoesN.enumFrom (A := X.A) 0 D e n1 (by simp [n1, Ne.symm n3]) (by simp), ⟨he, hi, hT⟩, fun b hb => hb, fun h' st => ⟨st.1, st.2.1, n1, n2, n3⟩, ?_, ?_⟩
    · have e1 : its.toArray.size = xs.length := by rw [List.size_toArray, rv.length]
      rw [e1]
      exact hl
    · rintro h0 v h' ⟨T, t, x, rfl, hT0, hx, hTu⟩
      have hx2 : its[i]? = some x := by simpa using hx
      have hi2 : i < xs.length := by
        rw [rv.length]
        exact (List.getElem?_eq_some_iff.mp hx2).1
      obtain ⟨u, hu, ru⟩ := rv.get (List.getElem?_eq_getElem hi2)
      rw [hx2] at hu
      obtain rfl := Option.some.inj hu
      exact ⟨T, .int (i : Nat), xs[i], _, _, rfl, hT0, hTu, ⟨t, by simp⟩, ru, fun T' hT' => ⟨T', _, _, rfl, hT', rfl, rfl, List.getElem?_eq_getElem hi2⟩⟩
  refine turn_of (by simp) (fun i h st b hb => ?_) (fun i h h' st k => ?_) (fun A i s Q E st h => ?_) (fun X h1 h2 h3 h4 i pins s σ H I st g => src X h1 h2 h3 h4 i pins s σ H I st g.2 false g.1) fun X h1 h2 h3 h4 i pins s σ H I st g => ?_
  · obtain ⟨⟨old, he⟩, ⟨o, ho, hc, hd⟩, _⟩ := st
    rcases (by simpa using hb : b = e ∨ b = it) with rfl | rfl
    · exact ⟨_, he, fun v q => nomatch q⟩
    · exact ⟨o, ho, fun v q => by rw [hd] at q; cases q⟩
  · obtain ⟨⟨old, he⟩, hi, r⟩ := st
    exact ⟨⟨old, k e (by simp) _ he⟩, hi.at fun o q => k it (by simp) o q, r⟩
  · obtain ⟨⟨old, he⟩, _⟩ := st
    exact wpAny_pyIter_enum he h
  · exact src X h1 h2 h3 h4 i pins s σ H I st g.2 true g.1
/-- enumerate(t), t a tuple -/
def iEnumT (K : PySem.W.Frag) (ta : TA) : TI := fun σ H R => ta σ H fun vs H1 => ∃ a xs, vs = [.ref a] ∧ SqT K H1 a xs ∧ R (ItEnT K a xs) H1
theorem pi_enumT {X : Cx} {e : Expr} {ta : TA} {p pos tpos : Pos} {elts : List Expr} {kk : Nat} (hg : Gl X "enumerate") (hm : X.mg "enumerate" = none) (ha : PA X [e] ta) (hs : starEach [e] X.env = [(false, eval e X.env)] := by rfl) : PI X (.Tuple elts kk tpos) (.Call (.Name "enumerate" p) [e] [] pos) (iEnumT X.K ta) := by
  refine ⟨fun pins s σ H R I h => Call_ (ld_blt I hg hm boot_enumerate (PyProof.Rows.callWith_type1 (thn (ha.run pos pins s σ H _ I h) fun us s1 z => ?_) hs rfl))⟩
  obtain ⟨vs, H1, I1, r1, a, xs, rfl, hq, q⟩ := z
  obtain ⟨u, rfl, ru⟩ := r1.one
  cases (show u = Value.ref a from ru)
  obtain ⟨its, rv, hT, hz⟩ := I1.tuple hq
  have hlt : a < s1.heap.objs.size := hT.elim fun _ z => Heap.lt_size z.1
  refine enum1_begins (begins_tuple a its.toArray) hT fun h' he hit hk => wpAny_pyIter_enum he ?_
  have I2 : Inv X pins σ H1 { s1 with heap := h' } := I1.kept (t' := s1.toks) hk
  refine ⟨s1.heap.objs.size + 1, [s1.heap.objs.size + 1, s1.heap.objs.size], _, _, H1, rfl, I2, turn_enumT (xs := xs) a (s1.heap.objs.size + 1) s1.heap.objs.size, ⟨⟨.none, he⟩, ⟨_, hit, rfl, rfl⟩, Nat.succ_ne_self _, Nat.ne_of_lt hlt, Nat.ne_of_lt (Nat.lt_succ_of_lt hlt)⟩, fun b hb => ?_, q⟩
  have hle : s1.heap.objs.size ≤ b := by
    rcases (by simpa using hb : b = s1.heap.objs.size + 1 ∨ b = s1.heap.objs.size) with z | z
    · rw [z]
      exact Nat.le_succ _
    · rw [z]
      exact Nat.le_refl _
  exact I1.fpOk hle (I1.hok.fresh hle)
/-! ### zip(list, tuple) -/
abbrev ItZLT (K : PySem.W.Frag) (a b : Addr) (xs ys : List V) : It := ItX (min xs.length ys.length) (fun H => SqL K H a xs ∧ SqT K H b ys) (fun i => xs[i]?) (fun i => ys[i]?)
/-- the five records of zip, and what they walk, lie apart -/
structure Apart5 (z TI TO i1 i2 a b : Addr) : Prop where
  n1 : TI ≠ z
  n2 : TO ≠ z
  n3 : TI ≠ TO
  n4 : TI ≠ i1
  n5 : TI ≠ i2
  n6 : z ≠ i1
  n7 : z ≠ i2
  n8 : TO ≠ i1
  n9 : TO ≠ i2
  n10 : i1 ≠ i2
  a1 : a ≠ z
  a2 : a ≠ TI
  a3 : a ≠ TO
  a4 : a ≠ i1
  a5 : a ≠ i2
  b1 : b ≠ z
  b2 : b ≠ TI
  b3 : b ≠ TO
  b4 : b ≠ i1
  b5 : b ≠ i2
abbrev zipSt (z TI TO i1 i2 a b : Addr) (i : Nat) (h : Heap) : Prop := IsZip h z TI TO .none ∧ IsTupOf2 h TI (.ref i1) (.ref i2) ∧ (∃ x y, IsTupOf2 h TO x y) ∧ h.IsListIter i1 a i ∧ h.IsTupleIter i2 b i
theorem turn_zipLT {P : Program} {w : World} {K : PySem.W.Frag} {elts : List Expr} {kk : Nat} {tpos : Pos} {xs ys : List V} {z TI TO i1 i2 a b : Addr} (S : Apart5 z TI TO i1 i2 a b) :
    Turn P w K (.Tuple elts kk tpos) (ItZLT K a b xs ys) [z, TI, TO, i1, i2] z (zipSt z TI TO i1 i2 a b) := by
  have src : ∀ (X : Cx), X.prog = P → X.w = w → X.K = K → X.calm = true → ∀ (i : Nat) pins s σ H, Inv X pins σ H s → zipSt z TI TO i1 i2 a b i s.heap → SqL K H a xs → SqT K H b ys → ∀ last : Bool, (if last = true then i = min xs.length ys.length else i < min xs.length ys.length) →
      PairSrc P w X.A (.Tuple elts kk tpos) z [z, TI, TO, i1, i2] (zipSt z TI TO i1 i2 a b) i s.heap H (ItZLT K a b xs ys) last := by
    intro X hP hw hK hc i pins s σ H I ⟨h1, h2, h3, h4, h5⟩ hq hr last hl
    subst hP hw hK
    obtain ⟨its, rv, pl, _⟩ := I.list hq
    obtain ⟨jts, rw', hT, _⟩ := I.tuple hr
    have D1 := Draws.list (prog := X.prog) (w := X.w) (A := X.A.in1) (I.ok.hd hc) i1 a S.a4 its.toArray
    have D2 := Draws.tuple (prog := X.prog) (w := X.w) (A := X.A.in1) (I.ok.hd hc) i2 b S.b5 jts.toArray
    have Z : ZipSep2 z TI TO i1 i2 [i1, a] [i2, b] := ⟨S.n1, S.n2, S.n3, S.n4, by simp, by simp [S.n6, Ne.symm S.a1], by simp [S.n8, Ne.symm S.a3], S.n5, by simp, by simp [S.n7, Ne.symm S.b1], by simp [S.n9, Ne.symm S.b3], by simp [S.n10, Ne.symm S.b4], by simp [Ne.symm S.n10, Ne.symm S.a5]⟩
    refine ⟨_, _, _, _, _, GoesN.zip2 (A := X.A) Z D1 D2, ⟨h1, h2, h3, ⟨h4, pl.isList⟩, h5, hT⟩, fun c hc => ?_, fun h' st => ⟨st.1, st.2.1, st.2.2.1, st.2.2.2.1.1, st.2.2.2.2.1⟩, ?_, ?_⟩
    · simp at hc ⊢
      rcases hc with h | h | h | h <;> simp [h]
    · rw [List.size_toArray, List.size_toArray, ← rv.length, ← rw'.length]
      exact hl
    · rintro h0 v h' ⟨T, x, y, rfl, hT0, hx, hy, hTu⟩
      have hx2 : its[i]? = some x := by simpa using hx
      have hy2 : jts[i]? = some y := by simpa using hy
      have hi : i < xs.length := by
        rw [rv.length]
        exact (List.getElem?_eq_some_iff.mp hx2).1
      have hj : i < ys.length := by
        rw [rw'.length]
        exact (List.getElem?_eq_some_iff.mp hy2).1
      obtain ⟨u, hu, ru⟩ := rv.get (List.getElem?_eq_getElem hi)
      obtain ⟨u2, hu2, ru2⟩ := rw'.get (List.getElem?_eq_getElem hj)
      rw [hx2] at hu
      rw [hy2] at hu2
      obtain rfl := Option.some.inj hu
      obtain rfl := Option.some.inj hu2
      exact ⟨T, xs[i], ys[i], _, _, rfl, hT0, hTu, ru, ru2, fun T' hT' => ⟨T', _, _, rfl, hT', rfl, List.getElem?_eq_getElem hi, List.getElem?_eq_getElem hj⟩⟩
  refine turn_of (by simp) (fun i h st c hc => ?_) (fun i h h' st k => ?_) (fun A i s Q E st h => wpAny_pyIter_zip st.1 h) (fun X h1 h2 h3 h4 i pins s σ H I st g => src X h1 h2 h3 h4 i pins s σ H I st g.2.1 g.2.2 false g.1) fun X h1 h2 h3 h4 i pins s σ H I st g => src X h1 h2 h3 h4 i pins s σ H I st g.2.1 g.2.2 true g.1
  · obtain ⟨q1, q2, ⟨x, y, q3⟩, ⟨o4, q4, c4, d4⟩, ⟨o5, q5, c5, d5⟩⟩ := st
    rcases (by simpa using hc : c = z ∨ c = TI ∨ c = TO ∨ c = i1 ∨ c = i2) with rfl | rfl | rfl | rfl | rfl
    · exact ⟨_, q1, fun v q => nomatch q⟩
    · exact ⟨_, q2, fun v q => nomatch q⟩
    · exact ⟨_, q3, fun v q => nomatch q⟩
    · exact ⟨_, q4, fun v q => by rw [d4] at q; cases q⟩
    · exact ⟨_, q5, fun v q => by rw [d5] at q; cases q⟩
  · obtain ⟨q1, q2, ⟨x, y, q3⟩, q4, q5⟩ := st
    exact ⟨k z (by simp) _ q1, k TI (by simp) _ q2, ⟨x, y, k TO (by simp) _ q3⟩, q4.at fun o q => k i1 (by simp) o q, q5.at fun o q => k i2 (by simp) o q⟩
/-- zip(xs, t), xs a list, t a tuple -/
def iZipLT (K : PySem.W.Frag) (ta : TA) : TI := fun σ H R => ta σ H fun vs H1 => ∃ a b xs ys, vs = [.ref a, .ref b] ∧ SqL K H1 a xs ∧ SqT K H1 b ys ∧ R (ItZLT K a b xs ys) H1
theorem pi_zipLT {X : Cx} {e e2 : Expr} {ta : TA} {p pos tpos : Pos} {elts : List Expr} {kk : Nat} (hg : Gl X "zip") (hm : X.mg "zip" = none) (ha : PA X [e, e2] ta) (hs : starEach [e, e2] X.env = (false, eval e X.env) :: starEach [e2] X.env := by rfl)
    (hpl : (backTo pos (starEach [e2] X.env)).any (·.1) = false := by rfl) : PI X (.Tuple elts kk tpos) (.Call (.Name "zip" p) [e, e2] [] pos) (iZipLT X.K ta) := by
  refine ⟨fun pins s σ H R I h => Call_ (ld_blt I hg hm PyProof.Rows.boot_zip (PyProof.Rows.callWith_type1 (thn (ha.run pos pins s σ H _ I h) fun us s1 z => ?_) hs hpl))⟩
  obtain ⟨vs, H1, I1, r1, a, b, xs, ys, rfl, hq, hr, q⟩ := z
  obtain ⟨u1, u2, rfl, ru, ru2⟩ := vals2 r1
  cases (show u1 = Value.ref a from ru)
  cases (show u2 = Value.ref b from ru2)
  obtain ⟨its, rv, pl, _⟩ := I1.list hq
  obtain ⟨jts, rw', hT, _⟩ := I1.tuple hr
  have la : a < s1.heap.objs.size := pl.isList.elim fun _ z => Heap.lt_size z.1
  have lb : b < s1.heap.objs.size := hT.elim fun _ z => Heap.lt_size z.1
  refine zip_begins2 (begins_list a its.toArray) (begins_tuple b jts.toArray) pl.isList hT fun h' hz hTI hTO hi1 hi2 hsz hk => wpAny_pyIter_zip hz ?_
  have I2 : Inv X pins σ H1 { s1 with heap := h' } := I1.kept (t' := s1.toks) hk
  have S : Apart5 (s1.heap.objs.size + 4) (s1.heap.objs.size + 2) (s1.heap.objs.size + 3) s1.heap.objs.size (s1.heap.objs.size + 1) a b := by
    generalize s1.heap.objs.size = m at la lb
    have la' : (show Nat from a) < m := la
    have lb' : (show Nat from b) < m := lb
    refine ⟨?_, ?_, ?_, ?_, ?_, ?_, ?_, ?_, ?_, ?_, ?_, ?_, ?_, ?_, ?_, ?_, ?_, ?_, ?_, ?_⟩ <;> (intro e; have e' : (show Nat from _) = (show Nat from _) := e; simp only [] at *; omega)
  refine ⟨s1.heap.objs.size + 4, _, _, _, H1, rfl, I2, turn_zipLT (xs := xs) (ys := ys) S, ⟨hz, hTI, ⟨_, _, hTO⟩, ⟨_, hi1, rfl, rfl⟩, ⟨_, hi2, rfl, rfl⟩⟩, fun c hc => ?_, q⟩
  have hle : s1.heap.objs.size ≤ c := by
    rcases (by simpa using hc : c = s1.heap.objs.size + 4 ∨ c = s1.heap.objs.size + 2 ∨ c = s1.heap.objs.size + 3 ∨ c = s1.heap.objs.size ∨ c = s1.heap.objs.size + 1) with z | z | z | z | z <;> rw [z]
    · exact Nat.le_add_right _ _
    · exact Nat.le_add_right _ _
    · exact Nat.le_add_right _ _
    · exact Nat.le_refl _
    · exact Nat.le_add_right _ _
  exact I1.fpOk hle (I1.hok.fresh hle)
end Bx
set_option Elab.async false
set_option linter.all false
set_option maxRecDepth 100000
set_option maxHeartbeats 4000000
/-! BxT2: items() of a dict whose keys are tuples. -/
namespace Bx
open PySem PySem.Spec PyProof.Rows L2
/-- the entries of the locked dict at d, each a new pair of its key's own tuple and its value -/
def ItIT (d : Addr) (o : Obj) (kvs : List (List Key × V)) : It :=
  ⟨fun i H => i < kvs.length ∧ H d = some (.frz o (.dT kvs)), fun i H v H' => ∃ T q k u, v = .ref T ∧ H T = none ∧ H' = upd H T (.tup [.ref q, u]) ∧ kvs[i]? = some (k, u) ∧ H q = some (.tup (k.map kV)), fun i H => i = kvs.length ∧ H d = some (.frz o (.dT kvs))⟩
theorem walk_itemsT {d : Addr} {o : Obj} {kvs : List (List Key × V)} : Walk (ItIT d o kvs) kvs.length (fun H => H d = some (.frz o (.dT kvs)))
    (fun i H v H' => ∃ T q k u, v = .ref T ∧ H T = none ∧ H' = upd H T (.tup [.ref q, u]) ∧ kvs[i]? = some (k, u) ∧ H q = some (.tup (k.map kV))) := ⟨fun _ _ hi q => ⟨hi, q⟩, fun _ q => ⟨rfl, q⟩, fun _ _ _ _ _ _ y => y⟩
theorem frz_dT {X : Cx} {pins : List (Addr × Obj)} {σ : L2.St} {H : Hp} {s : Shared} {d : Addr} {o : Obj} {kvs : List (List Key × V)} (I : L2.Inv X pins σ H s) (h : H d = some (.frz o (.dT kvs))) :
    (d == sysModules) = false ∧ s.heap.get? d = some o ∧ o.ExactDict ∧ ∃ (es : Array DictEntry) (ep : Nat), o.data = .dict es ep ∧ es.size = kvs.length ∧
      ∀ (i : Nat) (k : List Key) (v : V), kvs[i]? = some (k, v) → ∃ (en : DictEntry) (q : Addr), es[i]? = some en ∧ en.key = .ref q ∧ H q = some (.tup (k.map kV)) ∧ RelV v en.val := by
  obtain ⟨g1, _, g2, xs, pr, o', es, ep, ho, hx, hdt, he, _⟩ := I.hok d _ h
  obtain rfl : o' = o := Option.some.inj (ho.symm.trans g1)
  refine ⟨g2, g1, hx, es, ep, hdt, ?_, fun i k v e => ?_⟩
  · have l1 : es.size = xs.length := size_of_entries he
    have l2 : kvs.length = xs.length := Paired.length pr
    omega
  · obtain ⟨b, hb, e1, e2, e3⟩ := paired_get pr e
    have q := entry_at he i
    rw [hb] at q
    exact ⟨_, b.2.1, q, rfl, e2, e3⟩
theorem turn_itemsT {P : Program} {w : World} {K : PySem.W.Frag} {elts : List Expr} {kk : Nat} {tpos : Pos} {d it : Addr} {o : Obj} {kvs : List (List Key × V)} {es : Array DictEntry} {ep : Nat} (hne : d ≠ it) (hod : o.data = .dict es ep) :
    Turn P w K (.Tuple elts kk tpos) (ItIT d o kvs) [it] it (fun i h => ∃ ok ov, IsItemIter h it d i kvs.length ep ok ov) := by
  have src : ∀ (X : Cx), X.prog = P → X.w = w → X.K = K → X.calm = true → ∀ (i : Nat) pins s σ H, Inv X pins σ H s → (∃ ok ov, IsItemIter s.heap it d i kvs.length ep ok ov) → H d = some (.frz o (.dT kvs)) → ∀ last : Bool, (if last = true then i = kvs.length else i < kvs.length) →
      PairSrc P w X.A (.Tuple elts kk tpos) it [it] (fun i h => ∃ ok ov, IsItemIter h it d i kvs.length ep ok ov) i s.heap H (ItIT d o kvs) last := by
    intro X hP hw hK hc i pins s σ H I st hd last hl
    subst hP hw hK
    obtain ⟨g1, g2, hx, es', ep', hdt, hsz, ent⟩ := frz_dT I hd
    obtain ⟨rfl, rfl⟩ := dict_ep hod hdt
    rw [← hsz] at st hl
    refine ⟨_, _, _, _, _, GoesN.rawItems (A := X.A) (I.ok.hd hc) it d hne es' ep', ⟨st, o, g2, hx, hdt⟩, fun b hb => hb, fun h' st' => by rw [← hsz]; exact st'.1, hl, ?_⟩
    rintro h0 v h' ⟨T, hi, rfl, hT0, hTu⟩
    have hi2 : i < kvs.length := by rw [← hsz]; exact hi
    obtain ⟨en, q, e1, e2, e3, e4⟩ := ent i kvs[i].1 kvs[i].2 (List.getElem?_eq_getElem hi2)
    have e5 : es'[i] = en := by
      rw [Array.getElem?_eq_getElem hi] at e1
      exact Option.some.inj e1
    rw [e5] at hTu
    exact ⟨T, .ref q, kvs[i].2, en.key, en.val, rfl, hT0, hTu, e2, e4, fun T' hT' => ⟨T', q, kvs[i].1, _, rfl, hT', rfl, List.getElem?_eq_getElem hi2, e3⟩⟩
  refine turn_of (by simp) (fun i h st c hc => ?_) (fun i h h' st k => ?_) (fun A i s Q E st h => ?_) (fun X h1 h2 h3 h4 i pins s σ H I st g => src X h1 h2 h3 h4 i pins s σ H I st g.2 false g.1) fun X h1 h2 h3 h4 i pins s σ H I st g => src X h1 h2 h3 h4 i pins s σ H I st g.2 true g.1
  · obtain ⟨ok, ov, e⟩ := st
    obtain rfl : c = it := by simpa using hc
    exact ⟨_, e, fun v z => nomatch z⟩
  · obtain ⟨ok, ov, e⟩ := st
    exact ⟨ok, ov, k it (by simp) _ e⟩
  · obtain ⟨_, _, e⟩ := st
    exact PySem.W.kcp_self e h
def iItemsT (td : TE) : TI := fun σ H R => td σ H fun x H1 => ∃ d o kvs, x = .ref d ∧ H1 d = some (.frz o (.dT kvs)) ∧ R (ItIT d o kvs) H1
theorem pi_itemsT {X : Cx} {e : Expr} {td : TE} {apos cpos : Pos} {elts : List Expr} {kk : Nat} {tpos : Pos} (he : PE X e td) (hbase : attributeBase e "items" X.env (eval e X.env) = eval e X.env := by rfl) (hline : (apos.endLine == cpos.line) = true := by rfl) :
    PI X (.Tuple elts kk tpos) (.Call (.Attribute e "items" apos) [] [] cpos) (iItemsT td) := by
  refine ⟨fun pins s σ H R I h => wpAny_Call_method (T := "dict") (id := "dict.items") hbase rfl hline PySem.F.plainAttrs_dict PySem.F.slot_dict_items PySem.F.type_dict_items (thn (he.run pins s σ H _ I h) fun u s1 z => ?_)⟩
  obtain ⟨x, H1, I1, rx, d, o, kvs, rfl, hd, q⟩ := z
  obtain rfl : u = Value.ref d := rx
  obtain ⟨g1, g2, hx, es, ep, hdt, hsz, ent⟩ := frz_dT I1 hd
  have hr : s1.heap.DictRaw d es ep := ⟨o, g2, hx, hdt⟩
  have hlt : d < s1.heap.objs.size := Heap.lt_size g2
  refine ⟨hr.typeIs, ?_, ?_⟩
  · intro a e
    cases e
    exact ⟨o, g2, hx.2.1⟩
  · have I2 : Inv X pins σ H1 { s1 with heap := s1.heap.push { cls := .type "dict_items", data := .fields #[.ref d] } } := I1.kept (t' := s1.toks) fun b ob q => Heap.get?_push_of_some _ q
    have fin : wpAny (model X.prog X.w) X.A (pyIter (.ref s1.heap.objs.size)) (PIE X pins σ (.Tuple elts kk tpos) R) X.xe { s1 with heap := s1.heap.push { cls := .type "dict_items", data := .fields #[.ref d] } } := by
      refine wpAny_pyIter_items_raw (d := d) ⟨_, Heap.get?_push_size _ rfl, rfl, rfl⟩ (hr.at fun ob e => Heap.get?_push_of_some _ e) (pi_one (tk := s1.toks) I2 _ (turn_itemsT ?_ hdt) ⟨.none, .none, ?_⟩ q)
      · rw [Heap.size_push]
        exact Nat.ne_of_lt (Nat.lt_succ_of_lt hlt)
      · rw [← hsz]
        exact Heap.get?_push_size _ rfl
    show wpAny _ _ (callWith cpos (.builtin "dict.items") [.ref d] [] []) _ X.xe s1
    exact method_meetsIn PySem.F.slot_dict_items PySem.F.entry_dict_items rfl (PySem.evalArgs_none ⟨rfl, hr.typeIs, PySem.F.args_dict_items_1 _, _, meets_dict_items_raw d g1, ⟨es, ep, hr⟩, fin⟩)
end Bx
set_option Elab.async false
set_option linter.all false
set_option maxRecDepth 100000
set_option maxHeartbeats 4000000
/-! BxM: layings, III. -/
namespace Bx
open PySem PySem.Spec PyProof.Rows L2
section
variable {P : Program} {w : World} {K : PySem.W.Frag} {mg : Str → Option Value} {base : Heap}
/-! ### is_laying -/
/-- a laying of at most four parcels of the heap, none twice, no side too long -/
structure GoodLay (ps : List Par) (S : Str → T3) (L : Lay) : Prop where
  few : L.names.length ≤ 4
  nd : L.names.Nodup
  held : ∀ n ∈ L.names, n ∈ pNames ps
  fit : okT (L.span S)
def spIsLaying (K : PySem.W.Frag) : Sp := fun vs H Q _ => ∃ a dx l xs ps v L S, vs = [.ref a, v] ∧ HpAt K H a dx l xs ps ∧ SaysT S ps ∧ LayAt K H v L ∧ GoodLay ps S L ∧ ∀ H', Same H H' → Q (.bl true) H'
theorem sc_is_laying : FnScope ["heap", "thing", "names"] ["heap", "thing"] (defScope s_is_laying) := ⟨rfl, rfl, rfl, by decide +kernel, rfl, by decide +kernel, by decide +kernel⟩
theorem F_is_laying (T : Env w K mg) : Fx P w K mg base "is_laying" 11 ["heap", "thing"] (spIsLaying K) := by
  obtain ⟨fd, F⟩ := T.d_is_laying
  have F_has_form := F_has_form (P := P) (base := base) T 3
  have F_names_in := F_names_in (P := P) (base := base) T 3
  have F_three_of := F_three_of (P := P) (base := base) T 3
  refine ⟨_, fd, T.glo_is_laying, F.kp, F.bindsN fun _ _ _ _ _ _ us hl => match us, hl with | [_, _], _ => rfl, ?_⟩
  refine F.ok sc_is_laying (fun vs H Q E h => ?_) (fun cdv A outer s H vs Q E hr h => ?_)
  · obtain ⟨a, dx, l, xs, ps, v, L, S, rfl, _⟩ := h
    rfl
  · obtain ⟨a, dx, l, xs, ps, v, L, S, rfl, hh, hS, hL, hg, k⟩ := h
    refine ⟨_, PSs.nox (pss_cons (ps_if (pt_not (pt_val (pe_fx F_has_form (hr.mono (by decide)) rfl (pa_cons (pv 0) (pa_cons (pv 1) pa_nil))))) (pss_one (ps_ret pe_bl)) pss_nil) (pss_cons (ps_set (i := 2) sc_is_laying.nd rfl (Or.inl rfl) (pe_fx F_names_in (hr.mono (by decide)) rfl (pa_cons (pv 1) pa_nil))) (pss_cons (ps_if (PW.pt (pw_or (pt_cmpR op_gt (pe_callB call_len_seq (by rfl) T.free_len (by decide +kernel) (pa_cons (pv 2) pa_nil)) (C8.pe_gc rfl T.int_MOST_LAID) (nomark _)) (pw_or1 (pt_cmpR op_lt (pe_lenSet (by rfl) (by rfl) T.free_len (by rfl) T.free_set (pv 2)) (pe_callB call_len_seq (by rfl) T.free_len (by decide +kernel) (pa_cons (pv 2) pa_nil)) (nomark _))))) (pss_one (ps_ret pe_bl)) pss_nil) (pss_one (ps_ret (pe_cmpR op_le (pe_callB (cr_maxT rfl) (by rfl) T.free_max (by decide +kernel) (pa_cons (pe_fx F_three_of (hr.mono (by decide)) rfl (pa_cons (pv 0) (pa_cons (pv 1) pa_nil))) pa_nil)) (C8.pe_gc rfl T.int_MOST_SIDE) (nomark _))))))), ?_⟩
    have dp : L.depth ≤ 3 := by have := L.depth_lt; have := hg.few; omega
    have h12 : L.names.length ≤ 12 := Nat.le_trans hg.few (by decide)
    have h4 := hg.few
    refine ⟨_, rfl, _, rfl, a, dx, l, xs, ps, v, L, rfl, hh, hL, dp, hg.held, fun H1 s1 => ⟨_, rfl, iteF ?_⟩⟩
    refine ⟨_, rfl, v, L, rfl, hL.mono s1, dp, h12, fun D H2 s2 n2 e2 => ?_⟩
    refine ⟨_, rfl, D, _, rfl, .inl (SqL.of e2), ?_⟩
    refine ⟨_, _, rfl, rfl, _, rfl, iteDF (by rw [List.length_map]; show ¬ ((6 : Int) < _); omega) ?_⟩
    refine ⟨_, rfl, D, L.names, rfl, .inl (SqL.of e2), hg.nd, h12, _, rfl, D, _, rfl, .inl (SqL.of e2), _, _, rfl, rfl, _, rfl, iteDF (by rw [List.length_map]; omega) ?_⟩
    refine ⟨_, rfl, _, rfl, a, dx, l, xs, ps, v, L, S, rfl, hh.mono (s1.trans s2), hS, hL.mono (s1.trans s2), dp, hg.held, fun r H3 s3 t3 => ?_⟩
    obtain ⟨q, rfl, hq⟩ := t3
    refine ⟨q, (L.span S).l, rfl, hq, (by show 0 < 3; decide), fun m hm _ => ⟨_, _, rfl, rfl, ?_⟩⟩
    have hm2 : m ≤ 100000 := by
      obtain ⟨f1, f2, f3⟩ := hg.fit
      have : m = (L.span S).x ∨ m = (L.span S).y ∨ m = (L.span S).z := by simpa [T3.l] using hm
      unfold okN at f1 f2 f3
      omega
    show Q (V.bl (decide (m ≤ 100000))) H3
    rw [decide_eq_true hm2]
    exact k _ (s1.trans (s2.trans s3))
def spNeedLaying (K : PySem.W.Frag) : Sp := fun vs H Q _ => ∃ a dx l xs ps v L S, vs = [.ref a, v] ∧ HpAt K H a dx l xs ps ∧ SaysT S ps ∧ LayAt K H v L ∧ GoodLay ps S L ∧ ∀ H', Same H H' → Q .non H'
theorem sc_need_laying : FnScope ["heap", "thing"] ["heap", "thing"] (defScope s_need_laying) := ⟨rfl, rfl, rfl, by decide +kernel, rfl, by decide +kernel, by decide +kernel⟩
theorem F_need_laying (T : Env w K mg) : Fx P w K mg base "need_laying" 12 ["heap", "thing"] (spNeedLaying K) := by
  obtain ⟨fd, F⟩ := T.d_need_laying
  have F_is_laying := F_is_laying (P := P) (base := base) T
  refine ⟨_, fd, T.glo_need_laying, F.kp, F.bindsN fun _ _ _ _ _ _ us hl => match us, hl with | [_, _], _ => rfl, ?_⟩
  refine F.ok sc_need_laying (fun vs H Q E h => ?_) (fun cdv A outer s H vs Q E hr h => ?_)
  · obtain ⟨a, dx, l, xs, ps, v, L, S, rfl, _⟩ := h
    rfl
  · obtain ⟨a, dx, l, xs, ps, v, L, S, rfl, hh, hS, hL, hg, k⟩ := h
    refine ⟨_, PSs.nox (pss_one (ps_if (pt_not (pt_val (pe_fx F_is_laying (hr.mono (by decide)) rfl (pa_cons (pv 0) (pa_cons (pv 1) pa_nil))))) (pss_one ps_never) pss_nil)), ?_⟩
    exact ⟨_, rfl, _, rfl, a, dx, l, xs, ps, v, L, S, rfl, hh, hS, hL, hg, fun H1 s1 => ⟨_, rfl, iteF (k _ s1)⟩⟩
def spSidesOf (K : PySem.W.Frag) : Sp := fun vs H Q _ => ∃ a dx l xs ps v L S, vs = [.ref a, v] ∧ HpAt K H a dx l xs ps ∧ SaysT S ps ∧ LayAt K H v L ∧ GoodLay ps S L ∧ ∀ r H', Same H H' → SidesAt K H' r (L.span S) → Q r H'
theorem sc_sides_of : FnScope ["heap", "laying", "one", "other", "third"] ["heap", "laying"] (defScope s_sides_of) := ⟨rfl, rfl, rfl, by decide +kernel, rfl, by decide +kernel, by decide +kernel⟩
theorem F_sides_of (T : Env w K mg) : Fx P w K mg base "sides_of" 13 ["heap", "laying"] (spSidesOf K) := by
  obtain ⟨fd, F⟩ := T.d_sides_of
  have F_need_laying := F_need_laying (P := P) (base := base) T
  have F_three_of := F_three_of (P := P) (base := base) T 3
  have F_Sides_init := F_Sides_init (P := P) (base := base) T
  refine ⟨_, fd, T.glo_sides_of, F.kp, F.bindsN fun _ _ _ _ _ _ us hl => match us, hl with | [_, _], _ => rfl, ?_⟩
  refine F.ok sc_sides_of (fun vs H Q E h => ?_) (fun cdv A outer s H vs Q E hr h => ?_)
  · obtain ⟨a, dx, l, xs, ps, v, L, S, rfl, _⟩ := h
    rfl
  · obtain ⟨a, dx, l, xs, ps, v, L, S, rfl, hh, hS, hL, hg, k⟩ := h
    have dp : L.depth ≤ 3 := by have := L.depth_lt; have := hg.few; omega
    refine ⟨_, PSs.nox (pss_cons (ps_expr (pe_fx F_need_laying (hr.mono (by decide)) rfl (pa_cons (pv 0) (pa_cons (pv 1) pa_nil)))) (pss_cons (ps_asg (pe_fx F_three_of (hr.mono (by decide)) rfl (pa_cons (pv 0) (pa_cons (pv 1) pa_nil))) (pg_tup (by rfl) (pgs_cons (pg_name (i := 2) sc_sides_of.nd rfl (Or.inl rfl)) (pgs_cons (pg_name (i := 3) sc_sides_of.nd rfl (Or.inl rfl)) (pgs_cons (pg_name (i := 4) sc_sides_of.nd rfl (Or.inl rfl)) pgs_nil))))) (pss_one (ps_ret (pe_kx F_Sides_init (hr.mono (by decide)) rfl (pa_cons (pv 2) (pa_cons (pv 3) (pa_cons (pv 4) pa_nil)))))))), ?_⟩
    refine ⟨_, rfl, _, rfl, a, dx, l, xs, ps, v, L, S, rfl, hh, hS, hL, hg, fun H1 s1 => ?_⟩
    refine ⟨_, rfl, _, rfl, a, dx, l, xs, ps, v, L, S, rfl, hh.mono s1, hS, hL.mono s1, dp, hg.held, fun r H2 s2 t2 => ?_⟩
    obtain ⟨q, rfl, hq⟩ := t2
    exact ⟨q, _, rfl, hq, rfl, _, _, rfl, _, _, rfl, _, _, rfl, rfl, _, rfl, _, rfl, _, rfl, make_sides hg.fit fun v H' s3 h3 => k v H' (s1.trans (s2.trans s3)) h3⟩
/-! ### turned -/
def spTurn3 (K : PySem.W.Frag) : Sp := fun vs H Q _ => ∃ (v u : V) (f : Fin 3 → V) (o : Fin 6), vs = [v, u] ∧ TupAt K H v [f 0, f 1, f 2] ∧ OrdAt K H u o ∧ ∀ r H', Same H H' → TupAt K H' r [f (oAt o 0), f (oAt o 1), f (oAt o 2)] → Q r H'
theorem tri_at (f : Fin 3 → V) : ∀ k : Fin 3, atI [f 0, f 1, f 2] (k.val : Int) = some (f k)
  | 0 => rfl
  | 1 => rfl
  | 2 => rfl
theorem oV_tri (f : Fin 3 → V) {o : Fin 6} {i : Nat} {x : V} (e : (oV o)[i]? = some x) : ∃ k : Fin 3, x = .int (k.val : Int) ∧ [f (oAt o 0), f (oAt o 1), f (oAt o 2)][i]? = some (f k) := by
  match i, e with
  | 0, e => exact ⟨oAt o 0, (Option.some.inj e).symm, rfl⟩
  | 1, e => exact ⟨oAt o 1, (Option.some.inj e).symm, rfl⟩
  | 2, e => exact ⟨oAt o 2, (Option.some.inj e).symm, rfl⟩
  | _ + 3, e => cases e
theorem sc_turned_three : FnScope ["three", "order", "number"] ["three", "order"] (defScope s_turned_three) := ⟨rfl, rfl, rfl, by decide +kernel, rfl, by decide +kernel, by decide +kernel⟩
theorem F_turned_three (T : Env w K mg) : Fx P w K mg base "turned_three" 1 ["three", "order"] (spTurn3 K) := by
  obtain ⟨fd, F⟩ := T.d_turned_three
  refine ⟨_, fd, T.glo_turned_three, F.kp, F.bindsN fun _ _ _ _ _ _ us hl => match us, hl with | [_, _], _ => rfl, ?_⟩
  refine F.ok sc_turned_three (fun vs H Q E h => ?_) (fun cdv A outer s H vs Q E hr h => ?_)
  · obtain ⟨v, u, f, o, rfl, _⟩ := h
    rfl
  · obtain ⟨v, u, f, o, rfl, ⟨p, rfl, hp⟩, ⟨q, rfl, hq⟩, k⟩ := h
    refine ⟨_, PSs.nox (pss_one (ps_ret (pe_callTy call_tuple_of (by rfl) T.free_tuple (by decide +kernel) (pa_cons (pe_lc (own := [("number", 2)]) (g := gName 2) (tt := tYes) (by rfl) sc_turned_three.nd (pi_tup (pv 1)) (blkOk_by (own := [("number", 2)]) (N := ["three", "order", "number"]) (sc := defScope s_turned_three) (by decide +kernel)) (fun _ _ _ _ _ => (pg_name (i := 2) sc_turned_three.nd rfl (Or.inl rfl))) (fun _ _ _ _ _ => pts_nil) (fun _ _ _ _ _ => (pe_ix (ix_tupK K) (pv 0) (pv 2) (fun _ _ => rfl)))) pa_nil)))), ?_⟩
    refine ⟨_, rfl, q, rfl, ⟨_, hq⟩, fun D hD => lc_src (walk_tup (xs := oV o)) (fun A a => Same_tup a hq) hD (show 3 ≤ sizeLine by decide) (fun i y _ => ∀ z, [f (oAt o 0), f (oAt o 1), f (oAt o 2)][i]? = some z → y = z) (fun _ _ _ _ _ h => h) (fun i x A ex a _ Kt kt => ?_) fun A acc a e hl hb => ?_⟩
    · obtain ⟨kk, rfl, ek⟩ := oV_tri f ex
      refine ⟨_, rfl, _, rfl, p, _, _, _, rfl, rfl, Same_tup a hp, tri_at f kk, kt _ _ (Same.refl _) fun z' e' => ?_⟩
      rw [ek] at e'
      exact Option.some.inj e'
    · have e2 := acc_is (xs := [f (oAt o 0), f (oAt o 1), f (oAt o 2)]) (fun z => z) hl fun i y hy x hx => hb i y hy x hx
      rw [List.map_id'] at e2
      rw [e2] at e
      exact ⟨D, _, rfl, .inl ⟨SqL.of e, fun l hl => k _ _ (a.trans (same_upd hl)) ⟨l, rfl, SqT.of upd_same⟩⟩⟩
def spTurnedBy (K : PySem.W.Frag) (d : Nat) : Sp := fun vs H Q _ => ∃ v L o, vs = [v, .ref (ordAd K (o : Fin 6).val)] ∧ LayAt K H v L ∧ L.depth ≤ d ∧ ∀ r H', Same H H' → LayAt K H' r (L.turn o) → Q r H'
theorem idx_ns (o : Fin 6) (k : Fin 3) : ((k.val : Int) ∈ [((oAt o 0).val : Int), ((oAt o 1).val : Int), ((oAt o 2).val : Int)]) ∧ [((oAt o 0).val : Int), ((oAt o 1).val : Int), ((oAt o 2).val : Int)].idxOf (k.val : Int) = (oIdx o k).val := by
  revert o k
  decide
theorem sc_turned_by : FnScope ["laying", "order"] ["laying", "order"] (defScope s_turned_by) := ⟨rfl, rfl, rfl, by decide +kernel, rfl, by decide +kernel, by decide +kernel⟩
theorem ok_turned_by (T : Env w K mg) (d k : Nat) (hk : 1 ≤ k) (F2 : ∀ d', d = d' + 1 → Fx P w K mg base "turned_by" k ["laying", "order"] (spTurnedBy K d')) : Fx P w K mg base "turned_by" (k + 1) ["laying", "order"] (spTurnedBy K d) := by
  obtain ⟨fd, F⟩ := T.d_turned_by
  have F_turned_three := F_turned_three (P := P) (base := base) T
  refine ⟨_, fd, T.glo_turned_by, F.kp, F.bindsN fun _ _ _ _ _ _ us hl => match us, hl with | [_, _], _ => rfl, ?_⟩
  refine F.ok sc_turned_by (fun vs H Q E h => ?_) (fun cdv A outer s H vs Q E hr h => ?_)
  · obtain ⟨v, L, o, rfl, _⟩ := h
    rfl
  · obtain ⟨v, L, o, rfl, hL, hd, k0⟩ := h
    have ho : ∀ H, OrdAt K H (.ref (ordAd K o.val)) o := fun H => ⟨_, rfl, T.ord H o⟩
    cases L with
    | one n p0 =>
      refine ⟨_, PSs.nox (pss_cons (ps_if (pt_cmpR op_eq (pe_ix ix_tup (pv 0) pe_int (fun _ _ => rfl)) pe_str (nomark _)) (pss_one (ps_ret (pe_tup (pa_cons pe_str (pa_cons (pe_ix ix_tup (pv 0) pe_int (fun _ _ => rfl)) (pa_cons (pe_fx F_turned_three (hr.mono (by omega)) rfl (pa_cons (pe_ix ix_tup (pv 0) pe_int (fun _ _ => rfl)) (pa_cons (pv 1) pa_nil))) pa_nil)))))) pss_nil) pss_never), ?_⟩
      obtain ⟨q, ⟨p, rfl, hp⟩, hq⟩ := id hL
      refine ⟨_, rfl, p, _, _, _, rfl, rfl, hp, rfl, rfl, _, rfl, iteT ?_⟩
      refine ⟨_, rfl, p, _, _, _, rfl, rfl, hp, rfl, _, rfl, p, _, _, _, rfl, rfl, hp, rfl, _, rfl, q, _, fun i => .int ((oAt p0 i).val : Int), o, rfl, hq, ho _, fun r H1 s1 t1 => ?_⟩
      refine ⟨(by show 3 ≤ sizeLine; decide), fun D hD => k0 _ _ (s1.trans (same_upd hD)) ⟨r, ⟨D, rfl, SqT.of upd_same⟩, ?_⟩⟩
      refine OrdAt.mono (same_upd hD) ?_
      show TupAt K H1 r (oV (oTurn p0 o))
      unfold oV
      rw [oTurn_at, oTurn_at, oTurn_at]
      exact t1
    | by_ i L M =>
      have hd2 : max L.depth M.depth + 1 ≤ d := hd
      obtain ⟨d', rfl⟩ : ∃ d', d = d' + 1 := ⟨d - 1, by omega⟩
      have F_turned_by := F2 d' rfl
      refine ⟨_, PSs.nox (pss_cons (ps_if (pt_cmpR op_eq (pe_ix ix_tup (pv 0) pe_int (fun _ _ => rfl)) pe_str (nomark _)) (pss_one ps_never) pss_nil) (pss_one (ps_ret (pe_tup (pa_cons pe_str (pa_cons (pe_bm PySem.F.plainAttrs_tuple PySem.F.slot_tuple_index PySem.F.type_tuple_index mt_tidx (pv 1) (pa_cons (pe_ix ix_tup (pv 0) pe_int (fun _ _ => rfl)) pa_nil)) (pa_cons (pe_fx F_turned_by (hr.mono (by omega)) rfl (pa_cons (pe_ix ix_tup (pv 0) pe_int (fun _ _ => rfl)) (pa_cons (pv 1) pa_nil))) (pa_cons (pe_fx F_turned_by (hr.mono (by omega)) rfl (pa_cons (pe_ix ix_tup (pv 0) pe_int (fun _ _ => rfl)) (pa_cons (pv 1) pa_nil))) pa_nil)))))))), ?_⟩
      obtain ⟨va, vb, ⟨p, rfl, hp⟩, ha, hb⟩ := id hL
      have hu : SqT K H (ordAd K o.val) ([((oAt o 0).val : Int), ((oAt o 1).val : Int), ((oAt o 2).val : Int)].map V.int) := T.ord H o
      obtain ⟨ob, ob1, ob2, ob3⟩ := T.ordK o
      obtain ⟨im, ie⟩ := idx_ns o i
      refine ⟨_, rfl, p, _, _, _, rfl, rfl, hp, rfl, rfl, _, rfl, iteF ?_⟩
      refine ⟨_, rfl, .inr (.inl ⟨rfl, ob, ob1, ob2, ob3⟩), _, rfl, p, _, _, _, rfl, rfl, hp, rfl, _, _, _, rfl, rfl, hu, im, ?_⟩
      refine ⟨_, rfl, p, _, _, _, rfl, rfl, hp, rfl, _, rfl, va, L, o, rfl, ha, by omega, fun r1 H1 s1 t1 => ?_⟩
      refine ⟨_, rfl, p, _, _, _, rfl, rfl, Same_tup s1 hp, rfl, _, rfl, vb, M, o, rfl, hb.mono s1, by omega, fun r2 H2 s2 t2 => ?_⟩
      refine ⟨(by show 4 ≤ sizeLine; decide), fun D hD => k0 _ _ (s1.trans (s2.trans (same_upd hD))) ⟨r1, r2, ⟨D, rfl, SqT.of ?_⟩, t1.mono (s2.trans (same_upd hD)), t2.mono (same_upd hD)⟩⟩
      rw [upd_same, ie]
theorem F_turned_by (T : Env w K mg) : ∀ d, Fx P w K mg base "turned_by" (d + 2) ["laying", "order"] (spTurnedBy K d)
  | 0 => ok_turned_by T 0 1 (by omega) fun d' e => absurd e (by omega)
  | d + 1 => ok_turned_by T (d + 1) (d + 2) (by omega) fun d' e => by
    obtain rfl : d' = d := by omega
    exact F_turned_by T d'
end
end Bx
set_option Elab.async false
set_option linter.all false
set_option maxRecDepth 100000
set_option maxHeartbeats 4000000
/-! BxN: Laid, names wanted, choices. -/
namespace Bx
open PySem PySem.Spec PyProof.Rows L2
theorem sm_tup {K : PySem.W.Frag} {H H' : Hp} {p a C dx : Addr} {fs : List (Str × V)} {xs : List V} (s : Sm [p] H H') (hp : H p = some (.ins C dx fs)) (h : SqT K H a xs) : SqT K H' a xs := by
  have np : ∀ u, H a = some u → (∀ C dx fs, u ≠ .ins C dx fs) → a ∉ [p] := fun u e z m => by
    have e2 : a = p := by simpa using m
    rw [e2, hp] at e
    exact z _ _ _ (Option.some.inj e).symm
  rcases h with (z | ⟨o, z⟩) | z
  · exact .inl (.inl (s _ _ (np _ z fun _ _ _ e => nomatch e) z))
  · exact .inl (.inr ⟨o, s _ _ (np _ z fun _ _ _ e => nomatch e) z⟩)
  · exact .inr z
def leL (a b : T3) : List V := [.bl (decide (a.x ≤ b.x)), .bl (decide (a.y ≤ b.y)), .bl (decide (a.z ≤ b.z))]
theorem leL_take (a b : T3) (k : Fin 3) : (leL a b).take (k.val + 1) = (leL a b).take k.val ++ [V.bl (decide (a.get k ≤ b.get k))] := by
  match k with
  | 0 => rfl
  | 1 => rfl
  | 2 => rfl
structure Laid where
  paper : Lay
  three : T3
def le3 (a b : T3) : Bool := decide (a.x ≤ b.x) && (decide (a.y ≤ b.y) && decide (a.z ≤ b.z))
section
variable (K : PySem.W.Frag) (H : Hp)
def LaidAt (v : V) (d : Laid) : Prop := ∃ a dx vp vt f, v = .ref a ∧ H a = some (.ins (CL K) dx [("paper", vp), ("three", vt), ("falling", .ref f)]) ∧ LayAt K H vp d.paper ∧ T3At K H vt d.three ∧ H f = some (.lst d.three.desc.v)
end
theorem LaidAt.mono {K : PySem.W.Frag} {H H' : Hp} (S : Same H H') {v : V} {d : Laid} (h : LaidAt K H v d) : LaidAt K H' v d := by
  obtain ⟨a, dx, vp, vt, f, h1, h2, h3, h4, h5⟩ := h
  exact ⟨a, dx, vp, vt, f, h1, S _ _ h2, h3.mono S, h4.mono S, S _ _ h5⟩
section
variable {P : Program} {w : World} {K : PySem.W.Frag} {mg : Str → Option Value} {base : Heap}
def spLInit (K : PySem.W.Frag) : Sp := fun vs H Q _ => ∃ (p dx : Addr) (vp vt : V) (d : Laid), vs = [.ref p, vp, vt] ∧ LayAt K H vp d.paper ∧ T3At K H vt d.three ∧ H p = some (.ins (CL K) dx []) ∧
  ∀ H' f, Sm [p] H H' → H' p = some (.ins (CL K) dx [("paper", vp), ("three", vt), ("falling", .ref f)]) → H' f = some (.lst d.three.desc.v) → Q .non H'
theorem sc_Laid_init : FnScope ["self", "paper", "three"] ["self", "paper", "three"] (defScope s_Laid_init) := ⟨rfl, rfl, rfl, by decide +kernel, rfl, by decide +kernel, by decide +kernel⟩
theorem F_Laid_init (T : Env w K mg) : Kx P w K mg base "Laid" (CL K) 1 ["self", "paper", "three"] [] (spLInit K) := by
  obtain ⟨fd, F⟩ := T.d_Laid_init
  refine ⟨_, fd, [], T.glo_Laid, T.mkr_Laid, .nil, F.bindsN fun _ _ _ _ _ _ us hl => match us, hl with | [_, _, _], _ => rfl, ?_⟩
  refine F.ok sc_Laid_init (fun vs H Q E h => ?_) (fun cdv A outer s H vs Q E hr h => ?_)
  · obtain ⟨p, dx, vp, vt, d, rfl, _⟩ := h
    rfl
  · obtain ⟨p, dx, vp, vt, d, rfl, hL, ⟨q, rfl, hq⟩, hp, k⟩ := h
    refine ⟨_, PSs.nox (pss_cons (ps_fld (pv 0) (pv 1) rfl) (pss_cons (ps_fld (pv 0) (pv 2) rfl) (pss_one (ps_fld (pv 0) (pe_callBK (cr_sortTR (b := true)) (by rfl) T.free_sorted (by decide +kernel) (pa_cons (pv 2) pa_nil) (pk_cons pe_bl pk_nil)) rfl)))), ?_⟩
    refine ⟨_, rfl, _, rfl, p, CL K, dx, [], rfl, hp, T.cls_Laid, T.noat_Laid_paper, (by decide), ?_⟩
    refine ⟨_, rfl, _, rfl, p, CL K, dx, _, rfl, upd_same, T.cls_Laid, T.noat_Laid_three, (by show 1 < 1000; decide), ?_⟩
    generalize eH : upd (upd H p _) p _ = H2
    have s2 : Sm [p] H H2 := fun b u nb e => by
      have nb2 : b ≠ p := by simpa using nb
      rw [← eH, upd_ne nb2, upd_ne nb2]
      exact e
    have hp2 : H2 p = some (.ins (CL K) dx [("paper", vp), ("three", .ref q)]) := by
      rw [← eH]
      exact upd_same
    refine ⟨_, rfl, q, d.three.l, rfl, rfl, sm_tup s2 hp hq, (by show 3 < 64; decide), fun ns' l hn ho hl => ?_⟩
    have npl : p ≠ l := ne_of_none hp2 hl
    rw [desc_of hn ho]
    refine ⟨_, rfl, p, CL K, dx, _, rfl, (by rw [upd_ne npl]; exact hp2), T.cls_Laid, T.noat_Laid_falling, (by show 2 < 1000; decide), ?_⟩
    refine k _ l (fun b u nb e => ?_) upd_same ?_
    · have nb2 : b ≠ p := by simpa using nb
      rw [upd_ne nb2, upd_ne (ne_of_none (s2 b u nb e) hl)]
      exact s2 b u nb e
    · rw [upd_ne npl.symm]
      exact upd_same
theorem make_laid {H : Hp} {Q : VK} {E : XK} {vp vt : V} {d : Laid} (hL : LayAt K H vp d.paper) (ht : T3At K H vt d.three) (k : ∀ v H', Same H H' → LaidAt K H' v d → Q v H') :
    ∀ x dx, H x = none → H dx = none → dx ≠ x → spLInit K (.ref x :: ([vp, vt] ++ [])) (upd (upd H dx (.own x)) x (.ins (CL K) dx [])) (fun v H2 => v = .non ∧ Q (.ref x) H2) E := fun x dx nx ndx nex => by
  have s1 : Same H (upd (upd H dx (.own x)) x (.ins (CL K) dx [])) := fun b u hb => by
    rw [upd_ne (ne_of_none hb nx), upd_ne (ne_of_none hb ndx)]
    exact hb
  refine ⟨x, dx, vp, vt, d, rfl, hL.mono s1, ht.mono s1, upd_same, fun H' f a h1 h2 => ⟨rfl, ?_⟩⟩
  have s2 : Same H H' := fun b u hb => a b u (by have := ne_of_none hb nx; simpa using this) (s1 b u hb)
  exact k _ _ s2 ⟨x, dx, vp, vt, f, rfl, h1, hL.mono s2, ht.mono s2, h2⟩
/-! ### holds, volume_of -/
def spHolds (K : PySem.W.Frag) : Sp := fun vs H Q _ => ∃ v f d t, vs = [v, .ref f] ∧ LaidAt K H v d ∧ H f = some (.lst (T3.v t)) ∧ ∀ H', Same H H' → Q (.bl (le3 d.three.desc t)) H'
theorem sc_Laid_holds : FnScope ["self", "falling", "own", "side"] ["self", "falling"] (defScope s_Laid_holds) := ⟨rfl, rfl, rfl, by decide +kernel, rfl, by decide +kernel, by decide +kernel⟩
theorem F_Laid_holds (T : Env w K mg) : Mx P w K mg base (CL K) "holds" 1 ["self", "falling"] [] (spHolds K) := by
  obtain ⟨fd, F⟩ := T.d_Laid_holds
  refine ⟨_, fd, [], T.meth_Laid_holds, .nil, F.bindsN fun _ _ _ _ _ _ us hl => match us, hl with | [_, _], _ => rfl, ?_⟩
  refine F.ok sc_Laid_holds (fun vs H Q E h => ?_) (fun cdv A outer s H vs Q E hr h => ?_)
  · obtain ⟨v, f, d, t, rfl, _⟩ := h
    rfl
  · obtain ⟨v, f, d, t, rfl, ⟨a, dx, vp, vt, g, rfl, ha, _, _, hg⟩, hf, k⟩ := h
    refine ⟨_, PSs.nox (pss_one (ps_ret (pe_callB (cr_all rfl) (by rfl) T.free_all (by decide +kernel) (pa_cons (pe_lc (own := [("own", 2), ("side", 3)])  (tt := tYes) (by rfl) sc_Laid_holds.nd (pi_zip (by rfl) T.free_zip (pa_cons (pe_fld (pv 0) (by rfl)) (pa_cons (pv 1) pa_nil))) (blkOk_by (own := [("own", 2), ("side", 3)]) (N := ["self", "falling", "own", "side"]) (sc := defScope s_Laid_holds) (by decide +kernel)) (fun _ _ _ _ _ => (pg_tupK K 2 (by rfl) (pgs_cons (pg_name (i := 2) sc_Laid_holds.nd rfl (Or.inl rfl)) (pgs_cons (pg_name (i := 3) sc_Laid_holds.nd rfl (Or.inl rfl)) pgs_nil)))) (fun _ _ _ _ _ => pts_nil) (fun _ _ _ _ _ => (pe_cmpR op_le (pv 2) (pv 3) (nomark _)))) pa_nil)))), ?_⟩
    refine ⟨_, rfl, a, _, dx, _, _, rfl, ha, T.cls_Laid, T.noat_Laid_falling, rfl, _, rfl, g, f, d.three.desc.v, t.v, rfl, SqL.of hg, SqL.of hf, fun D hD => lc_acc (walk_zip (n := 3) rfl) [] (fun _ _ => True) (fun j acc _ => acc = (leL d.three.desc t).take j) hD (by simp) (fun _ _ _ _ => trivial) trivial rfl (fun A s1 => ⟨SqL.of (s1.same _ _ hg), SqL.of (s1.same _ _ hf)⟩) ?_ ?_⟩
    · intro j x A B acc hj s1 _ e pa y Kt Kf kt _
      obtain ⟨tq, x1, x2, rfl, ht, rfl, e1, e2⟩ := y
      obtain ⟨kk, rfl, rfl⟩ := v3_get e1
      obtain ⟨k2, h2, rfl⟩ := v3_get e2
      obtain rfl : k2 = kk := Fin.ext h2
      refine ⟨tq, _, rfl, SqT.of upd_same, rfl, _, _, rfl, _, _, rfl, rfl, rfl, iteT (B := Kf (upd A tq (.tup [V.int (d.three.desc.get k2), V.int (t.get k2)]))) ⟨_, rfl, _, rfl, _, _, rfl, rfl, kt _ _ (Same_sm (same_upd ht)) (by rw [pa]; exact Nat.lt_of_le_of_lt (List.length_take_le _ _) (by have := k2.isLt; exact Nat.lt_of_lt_of_le this (by decide))) trivial ?_⟩⟩
      rw [pa, leL_take]
    · intro A acc s1 _ e pa
      refine ⟨D, [decide (d.three.desc.x ≤ t.x), decide (d.three.desc.y ≤ t.y), decide (d.three.desc.z ≤ t.z)], rfl, SqL.of (e.trans (by rw [pa]; rfl)), ?_⟩
      have e3 : ([decide (d.three.desc.x ≤ t.x), decide (d.three.desc.y ≤ t.y), decide (d.three.desc.z ≤ t.z)] : List Bool).all id = le3 d.three.desc t := by
        simp [le3]
      rw [e3]
      exact k _ s1.same
def spVolOf (K : PySem.W.Frag) : Sp := fun vs H Q _ => ∃ v d, vs = [v] ∧ LaidAt K H v d ∧ okT d.three ∧ Q (.int d.three.vol) H
theorem sc_volume_of : FnScope ["laid", "one", "other", "third"] ["laid"] (defScope s_volume_of) := ⟨rfl, rfl, rfl, by decide +kernel, rfl, by decide +kernel, by decide +kernel⟩
theorem F_volume_of (T : Env w K mg) : Fx P w K mg base "volume_of" 1 ["laid"] (spVolOf K) := by
  obtain ⟨fd, F⟩ := T.d_volume_of
  refine ⟨_, fd, T.glo_volume_of, F.kp, F.bindsN fun _ _ _ _ _ _ us hl => match us, hl with | [_], _ => rfl, ?_⟩
  refine F.ok sc_volume_of (fun vs H Q E h => ?_) (fun cdv A outer s H vs Q E hr h => ?_)
  · obtain ⟨v, d, rfl, _⟩ := h
    rfl
  · obtain ⟨v, d, rfl, ⟨a, dx, vp, vt, g, rfl, ha, _, ⟨q, rfl, hq⟩, hg⟩, ht, k⟩ := h
    refine ⟨_, PSs.nox (pss_cons (ps_asg (pe_fld (pv 0) (by rfl)) (pg_tup (by rfl) (pgs_cons (pg_name (i := 1) sc_volume_of.nd rfl (Or.inl rfl)) (pgs_cons (pg_name (i := 2) sc_volume_of.nd rfl (Or.inl rfl)) (pgs_cons (pg_name (i := 3) sc_volume_of.nd rfl (Or.inl rfl)) pgs_nil))))) (pss_one (ps_ret (pe_op op_mul (pe_op op_mul (pv 1) (pv 2)) (pv 3))))), ?_⟩
    refine ⟨_, rfl, a, _, dx, _, _, rfl, ha, T.cls_Laid, T.noat_Laid_three, rfl, q, _, rfl, hq, rfl, ?_⟩
    obtain ⟨⟨x1, x2⟩, ⟨y1, y2⟩, z1, z2⟩ := ht
    have xy : 0 ≤ d.three.x * d.three.y := Int.mul_nonneg (by omega) (by omega)
    have xy2 : d.three.x * d.three.y ≤ 100000 * 100000 := Int.mul_le_mul x2 y2 (by omega) (by omega)
    exact ⟨_, _, rfl, _, _, rfl, _, _, rfl, rfl, _, rfl, _, rfl, _, _, rfl, rfl, .inl ⟨by omega, by omega⟩, _, rfl, _, _, rfl, rfl, .inl ⟨by omega, by omega⟩, k⟩
end
end Bx
set_option Elab.async false
set_option linter.all false
set_option maxRecDepth 100000
set_option maxHeartbeats 4000000
/-! BxN2: need_names, choices. -/
namespace Bx
open PySem PySem.Spec PyProof.Rows L2
/-- names of parcels of a heap, one to four, none twice, not too long in all -/
structure GoodNames (ps : List Par) (S : Str → T3) (ns : List Str) : Prop where
  some : 1 ≤ ns.length
  few : ns.length ≤ 4
  nd : ns.Nodup
  held : ∀ n ∈ ns, n ∈ pNames ps
  fit : (ns.map fun n => (S n).desc.x).sum ≤ 100000
section
variable {P : Program} {w : World} {K : PySem.W.Frag} {mg : Str → Option Value} {base : Heap}
def spNeedNames (K : PySem.W.Frag) : Sp := fun vs H Q _ => ∃ a dx l xs ps S p ns, vs = [.ref a, .ref p] ∧ HpAt K H a dx l xs ps ∧ SaysT S ps ∧ (SqL K H p ((ns : List Str).map V.str) ∨ SqT K H p (ns.map V.str)) ∧ GoodNames ps S ns ∧ ∀ H', Same H H' → Q .non H'
theorem sc_need_names : FnScope ["heap", "names", "held", "name"] ["heap", "names"] (defScope s_need_names) := ⟨rfl, rfl, rfl, by decide +kernel, rfl, by decide +kernel, by decide +kernel⟩
theorem F_need_names (T : Env w K mg) : Fx P w K mg base "need_names" 4 ["heap", "names"] (spNeedNames K) := by
  obtain ⟨fd, F⟩ := T.d_need_names
  have F_Heap_names := F_Heap_names (P := P) (base := base) T
  have F_Heap_parcel := F_Heap_parcel (P := P) (base := base) T
  have F_Parcel_sides := F_Parcel_sides (P := P) (base := base) T
  have F_Sides_ranked := F_Sides_ranked (P := P) (base := base) T
  refine ⟨_, fd, T.glo_need_names, F.kp, F.bindsN fun _ _ _ _ _ _ us hl => match us, hl with | [_, _], _ => rfl, ?_⟩
  refine F.ok sc_need_names (fun vs H Q E h => ?_) (fun cdv A outer s H vs Q E hr h => ?_)
  · obtain ⟨a, dx, l, xs, ps, S, p, ns, rfl, _⟩ := h
    rfl
  · obtain ⟨a, dx, l, xs, ps, S, p, ns, rfl, hh, hS, hp, hg, k⟩ := h
    refine ⟨_, PSs.nox (pss_cons (ps_if (PW.pt (pw_or (pt_not (pt_val (pe_callB call_isiT (by rfl) T.free_isinstance (by decide +kernel) (pa_cons (pv 1) (pa_cons (pe_tup (pa_cons (pe_bltn (v := .ty "list") (u := .type "list") (by rfl) T.free_list (by decide +kernel) rfl) (pa_cons (pe_bltn (v := .ty "tuple") (u := .type "tuple") (by rfl) T.free_tuple (by decide +kernel) rfl) pa_nil))) pa_nil))))) (pw_or1 (pt_not (pt_chain op_le op_le pe_int (pe_callB call_len_seq (by rfl) T.free_len (by decide +kernel) (pa_cons (pv 1) pa_nil)) (C8.pe_gc rfl T.int_MOST_NAMES)))))) (pss_one ps_never) pss_nil) (pss_cons (ps_set (i := 2) sc_need_names.nd rfl (Or.inr rfl) (pe_mx0 T.cls_Heap F_Heap_names (hr.mono (by decide)) (pv 0))) (pss_cons (ps_if (PW.pt (pw_or (pt_not (pt_val (pe_callB (cr_all rfl) (by rfl) T.free_all (by decide +kernel) (pa_cons (pe_lc (own := [("name", 3)]) (g := gName 3) (tt := tYes) (by rfl) sc_need_names.nd (pi_seq (pv 1)) (blkOk_by (own := [("name", 3)]) (N := ["heap", "names", "held", "name"]) (sc := defScope s_need_names) (by decide +kernel)) (fun _ _ _ _ _ => (pg_name (i := 3) sc_need_names.nd rfl (Or.inl rfl))) (fun _ _ _ _ _ => pts_nil) (fun _ _ _ _ _ => (pe_and (pe_callB (call_isiK K) (by rfl) T.free_isinstance (by decide +kernel) (pa_cons (pv 3) (pa_cons (pe_bltn (v := .ty "str") (u := .type "str") (by rfl) T.free_str (by decide +kernel) rfl) pa_nil))) (pe_one (pe_cmpR (op_in_seqK K) (pv 3) (pv 2) (by rfl)))))) pa_nil)))) (pw_or1 (pt_cmpR op_lt (pe_lenSet (by rfl) (by rfl) T.free_len (by rfl) T.free_set (pv 1)) (pe_callB call_len_seq (by rfl) T.free_len (by decide +kernel) (pa_cons (pv 1) pa_nil)) (nomark _))))) (pss_one ps_never) pss_nil) (pss_one (ps_if (pt_cmpR op_gt (pe_callB (cr_sum rfl) (by rfl) T.free_sum (by decide +kernel) (pa_cons (pe_lc (own := [("name", 3)]) (g := gName 3) (tt := tYes) (by rfl) sc_need_names.nd (pi_seq (pv 1)) (blkOk_by (own := [("name", 3)]) (N := ["heap", "names", "held", "name"]) (sc := defScope s_need_names) (by decide +kernel)) (fun _ _ _ _ _ => (pg_name (i := 3) sc_need_names.nd rfl (Or.inl rfl))) (fun _ _ _ _ _ => pts_nil) (fun _ _ _ _ _ => (pe_ix (ix_tupK K) (pe_mx0 T.cls_Sides F_Sides_ranked (hr.mono (by decide)) (pe_mx0 T.cls_Parcel F_Parcel_sides (hr.mono (by decide)) (pe_mx T.cls_Heap F_Heap_parcel (hr.mono (by decide)) (pv 0) (pa_cons (pv 3) pa_nil)))) pe_int (fun _ _ => rfl)))) pa_nil)) (C8.pe_gc rfl T.int_MOST_SIDE) (nomark _)) (pss_one ps_never) pss_nil))))), ?_⟩
    have l1 := hg.some
    have l4 := hg.few
    refine ⟨_, rfl, (by show 2 ≤ sizeLine; decide), fun tp ht => ?_⟩
    have s1 : Same H (upd H tp (.tup [.ty "list", .ty "tuple"])) := same_upd ht
    obtain ⟨t, ty, hk⟩ := lt_ty (seq_mono s1 hp)
    refine ⟨_, tp, [.ty "list", .ty "tuple"], t, _, true, rfl, upd_same, .cons (.ty _) (.cons (.ty _) .nil), ty, hk, _, rfl, iteF ?_⟩
    generalize upd H tp (.tup [.ty "list", .ty "tuple"]) = H1 at s1
    refine ⟨_, rfl, p, _, rfl, seq_mono s1 hp, ?_⟩
    rw [List.length_map]
    refine ⟨_, _, rfl, rfl, _, rfl, iteDT (by omega) ⟨_, _, rfl, rfl, _, rfl, iteNS (by omega) ?_⟩⟩
    refine ⟨_, rfl, a, dx, _, rfl, s1 _ _ hh.ins, rfl, a, dx, l, xs, ps, rfl, hh.mono s1, fun hD H2 s2 nD eD => ?_⟩
    have s12 := s1.trans s2
    refine seq_lc rfl (seq_mono s12 hp) fun J G wk hG D hD1 => lc_src wk hG hD1 (by rw [List.length_map]; exact Nat.le_trans l4 (by decide)) (fun _ y _ => y = .bl true) (fun _ _ _ _ _ h => h) (fun i x B ex b _ Kt kt => ?_) fun B acc b e hl hb => ?_
    · rw [List.getElem?_map] at ex
      obtain ⟨z, ez, rfl⟩ := Option.map_eq_some_iff.mp ex
      refine ⟨_, rfl, _, _, .type "str", .type "str", true, rfl, .ty _, .base (.str _), kit_ty (by decide +kernel), _, rfl, iteT ⟨_, rfl, _, rfl, hD, _, rfl, .inl (SqL.of (b _ _ eD)), rfl, flat_strs _, kt _ _ (Same.refl _) ?_⟩⟩
      exact congrArg V.bl ((inV_strs z _).trans (decide_eq_true (hg.held z (List.mem_of_getElem? ez))))
    · rw [all_true hb] at e
      refine ⟨D, _, rfl, SqL.of e, ?_⟩
      rw [rep_all]
      have s13 := s12.trans b
      refine ⟨_, rfl, iteF ⟨_, rfl, p, ns, rfl, seq_mono s13 hp, hg.nd, Nat.le_trans l4 (by decide), _, rfl, p, _, rfl, seq_mono s13 hp, _, _, rfl, rfl, _, rfl, iteDF (by rw [List.length_map]; omega) ?_⟩⟩
      refine seq_lc rfl (seq_mono s13 hp) fun J G wk hG D2 hD2 => lc_src wk hG hD2 (by rw [List.length_map]; exact Nat.le_trans l4 (by decide)) (fun i y _ => ∀ z, (ns.map fun n => (S n).desc.x)[i]? = some z → y = .int z) (fun _ _ _ _ _ h => h) (fun i x C ex c _ Kt kt => ?_) fun C acc2 c e2 hl2 hb2 => ?_
      · rw [List.getElem?_map] at ex
        obtain ⟨n, en, rfl⟩ := Option.map_eq_some_iff.mp ex
        have s14 := s13.trans c
        refine ⟨_, rfl, a, dx, _, rfl, s14 _ _ hh.ins, rfl, _, rfl, a, dx, l, xs, ps, n, rfl, hh.mono s14, hg.held n (List.mem_of_getElem? en), fun u pr H3 e3 en3 s3 hu => ?_⟩
        obtain ⟨ua, udx, sv, m, rfl, hua, _⟩ := id hu
        refine ⟨ua, udx, _, rfl, hua, rfl, _, pr, rfl, hu, fun u2 hu2 => ?_⟩
        obtain ⟨sa, sdx, sq, rfl, hsa, _⟩ := id hu2
        refine ⟨sa, sdx, _, rfl, hsa, rfl, _, pr.t, rfl, hu2, fun u3 H4 s4 hu3 => ?_⟩
        obtain ⟨q, rfl, hq⟩ := hu3
        refine ⟨q, _, _, _, rfl, rfl, hq, rfl, kt _ _ (s3.trans s4) fun z ez => ?_⟩
        rw [List.getElem?_map, en] at ez
        rw [← Option.some.inj ez, ← en3]
        show V.int pr.t.desc.x = V.int (S pr.name).desc.x
        rw [(hS pr (List.mem_of_getElem? e3)).1]
      · have e4 := acc_is (xs := ns.map fun n => (S n).desc.x) V.int (by rw [hl2, List.length_map, List.length_map]) fun i y hy x hx => hb2 i y hy x hx
        rw [e4] at e2
        refine ⟨D2, _, rfl, SqL.of e2, _, _, rfl, rfl, _, rfl, iteDF (by have := hg.fit; omega) ?_⟩
        exact k _ (s13.trans c)
end
/-! ### choices -/
/-- all choices of so many of these, by their places -/
def chosen : Nat → List Str → List (List Str)
  | 0, _ => [[]]
  | _ + 1, [] => []
  | m + 1, n :: r => (chosen m r).map (n :: ·) ++ chosen (m + 1) r
theorem chosen_len : ∀ (m : Nat) (ns : List Str), (chosen m ns).length ≤ 2 ^ ns.length
  | 0, ns => by
    rw [show chosen 0 ns = [[]] by simp [chosen]]
    exact Nat.one_le_two_pow
  | _ + 1, [] => Nat.zero_le _
  | m + 1, n :: r => by
    have h1 := chosen_len m r
    have h2 := chosen_len (m + 1) r
    show ((chosen m r).map (n :: ·) ++ chosen (m + 1) r).length ≤ 2 ^ (r.length + 1)
    rw [List.length_append, List.length_map, Nat.pow_succ]
    omega
theorem chosen_each : ∀ (m : Nat) (ns : List Str), ∀ c ∈ chosen m ns, c.length = m ∧ c.Sublist ns
  | 0, ns, c, h => by
    have e : c = [] := by simpa [chosen] using h
    rw [e]
    exact ⟨rfl, List.nil_sublist _⟩
  | _ + 1, [], c, h => by simp [chosen] at h
  | m + 1, n :: r, c, h => by
    rcases List.mem_append.mp (show c ∈ (chosen m r).map (n :: ·) ++ chosen (m + 1) r from h) with z | z
    · obtain ⟨d, hd, rfl⟩ := List.mem_map.mp z
      obtain ⟨h1, h2⟩ := chosen_each m r d hd
      exact ⟨by simp [h1], h2.cons_cons _⟩
    · obtain ⟨h1, h2⟩ := chosen_each (m + 1) r c z
      exact ⟨h1, h2.cons _⟩
section
variable (H : Hp)
/-- a tuple that the run has made -/
def TrkAt (v : V) (xs : List V) : Prop := ∃ p, v = .ref p ∧ H p = some (.tup xs)
/-- the tuple of these texts -/
abbrev TxtAt (v : V) (c : List Str) : Prop := TrkAt H v (c.map V.str)
abbrev CsAt (vs : List V) (cs : List (List Str)) : Prop := Paired (TxtAt H) vs cs
end
section
variable {K : PySem.W.Frag} {H H' : Hp} {a b : Addr} {xs ys : List V} {Q : VK}
theorem TrkAt.mono (S : Same H H') {v : V} (h : TrkAt H v xs) : TrkAt H' v xs := by
  obtain ⟨p, rfl, h⟩ := h
  exact ⟨p, rfl, S _ _ h⟩
theorem TrkAt.tup {v : V} (h : TrkAt H v xs) : TupAt K H v xs := by
  obtain ⟨p, rfl, h⟩ := h
  exact ⟨p, rfl, SqT.of h⟩
theorem TrkAt.off {v : V} {D : Addr} {zs : List V} (h : TrkAt H v xs) (e : H D = some (.lst zs)) : TrkAt (Bx.off [D] H) v xs := by
  obtain ⟨p, rfl, h⟩ := h
  refine ⟨p, rfl, ?_⟩
  rw [off_out (fun m => ?_)]
  · exact h
  · have e2 : p = D := by simpa using m
    rw [e2, e] at h
    cases h
theorem CsAt.mono (S : Same H H') {vs : List V} {cs : List (List Str)} (h : CsAt H vs cs) : CsAt H' vs cs := L2.Paired.mapP h fun _ _ z => TrkAt.mono S z
theorem slice_from {k : Nat} (h0 : H a = some (.tup xs)) (q : ∀ v H', Same H H' → TrkAt H' v (xs.drop k) → Q v H') : rSlA K (.ref a) (some (k : Int)) none H Q := by
  refine ⟨a, xs, rfl, SqT.of h0, fun z => ?_, fun _ p hp => q _ _ (same_upd hp) ⟨p, rfl, ?_⟩⟩
  · rw [HT.sIx_nat] at z
    refine q _ _ (Same.refl _) ⟨a, rfl, ?_⟩
    have e : xs.drop k = xs := by
      rcases Nat.min_eq_zero_iff.mp z.1 with e | e
      · rw [e, List.drop_zero]
      · rw [List.length_eq_zero_iff.mp e, List.drop_nil]
    rw [e]
    exact h0
  · rw [upd_same]
    unfold cutV
    rw [HT.sIx_nat, HT.sIx_none]
    congr 2
    rw [List.take_of_length_le (by rw [List.length_drop]; omega)]
    rcases Nat.le_total k xs.length with e | e
    · rw [Nat.min_eq_left e]
    · rw [Nat.min_eq_right e, List.drop_length, List.drop_of_length_le e]
theorem slice_to {k : Nat} (h0 : H a = some (.tup xs)) (q : ∀ v H', Same H H' → TrkAt H' v (xs.take k) → Q v H') : rSlA K (.ref a) none (some (k : Int)) H Q := by
  refine ⟨a, xs, rfl, SqT.of h0, fun z => ?_, fun _ p hp => q _ _ (same_upd hp) ⟨p, rfl, ?_⟩⟩
  · rw [HT.sIx_nat] at z
    refine q _ _ (Same.refl _) ⟨a, rfl, ?_⟩
    rw [List.take_of_length_le (by have := z.2; omega)]
    exact h0
  · rw [upd_same]
    unfold cutV
    rw [HT.sIx_nat, HT.sIx_none, List.drop_zero, Nat.sub_zero]
    congr 2
    rcases Nat.le_total k xs.length with e | e
    · rw [Nat.min_eq_left e]
    · rw [Nat.min_eq_right e, List.take_length, List.take_of_length_le e]
theorem cat_tup (h1 : H a = some (.tup xs)) (h2 : H b = some (.tup ys)) (hz : xs.length + ys.length ≤ sizeLine) (q : ∀ v H', Same H H' → TrkAt H' v (xs ++ ys) → Q v H') : rCatA K (.ref a) (.ref b) H Q := by
  refine ⟨a, b, xs, ys, rfl, rfl, SqT.of h1, SqT.of h2, hz, fun e => q _ _ (Same.refl _) ⟨b, rfl, ?_⟩, fun _ e => q _ _ (Same.refl _) ⟨a, rfl, ?_⟩, fun _ _ p hp => q _ _ (same_upd hp) ⟨p, rfl, upd_same⟩⟩
  · rw [e]
    exact h2
  · rw [e, List.append_nil]
    exact h1
end
section
variable {P : Program} {w : World} {K : PySem.W.Frag} {mg : Str → Option Value} {base : Heap}
def spChosen (K : PySem.W.Frag) (m : Nat) : Sp := fun vs H Q _ => ∃ v ns, vs = [v, .int (m : Nat)] ∧ TxtAt H v ns ∧ ns.length ≤ 4 ∧ ∀ D H' us, Same H H' → H D = none → H' D = some (.lst us) → CsAt (off [D] H') us (chosen m ns) → Q (.ref D) H'
theorem sc_chosen : FnScope ["names", "many", "found", "at", "name", "more"] ["names", "many"] (defScope s_chosen) := ⟨rfl, rfl, rfl, by decide +kernel, rfl, by decide +kernel, by decide +kernel⟩
theorem ok_chosen (T : Env w K mg) {fd : FuncData} (F : FunD K "chosen" "chosen" (defArgs s_chosen) (defBody s_chosen) (defScope s_chosen) [] [] (He.fAd K ("chosen", none)) fd) (m k : Nat) (F2 : ∀ m', m = m' + 1 → Fx P w K mg base "chosen" k ["names", "many"] (spChosen K m')) :
    FnOk P w K mg base CX0 (k + 1) (He.fAd K ("chosen", none)) fd ["names", "many"] (spChosen K m) := by
  refine F.ok sc_chosen (fun vs H Q E h => ?_) (fun cdv A outer s H vs Q E hr h => ?_)
  · obtain ⟨v, ns, rfl, _⟩ := h
    rfl
  · obtain ⟨v, ns, rfl, hv, h4, k0⟩ := h
    cases m with
    | zero =>
      refine ⟨_, PSs.nox (pss_cons (ps_if (pt_cmpR op_eq (pv 1) pe_int (nomark _)) (pss_one (ps_ret (pe_lst (pa_cons (pe_tup pa_nil) pa_nil)))) pss_nil) pss_never), ?_⟩
      refine ⟨_, rfl, rfl, _, rfl, iteT ⟨Nat.zero_le _, fun p hp => ⟨(by show 1 ≤ sizeLine; decide), fun D hD => ?_⟩⟩⟩
      have np : p ≠ D := fun z => by rw [z, upd_same] at hD; cases hD
      have hD0 : H D = none := by rwa [upd_ne np.symm] at hD
      refine k0 D _ [.ref p] ((same_upd hp).trans (same_upd hD)) hD0 upd_same ?_
      rw [show chosen 0 ns = [[]] by simp [chosen]]
      refine .cons ⟨p, rfl, ?_⟩ .nil
      rw [off_out (by simpa using np), upd_ne np]
      exact upd_same
    | succ m =>
      have F_chosen := F2 m rfl
      refine ⟨_, PSs.nox (pss_cons (ps_if (pt_cmpR op_eq (pv 1) pe_int (nomark _)) (pss_one ps_never) pss_nil) (pss_cons (ps_set (i := 2) sc_chosen.nd rfl (Or.inl rfl) (pe_lst pa_nil)) (pss_cons (ps_for PassesOwn.never rfl (pi_enumT (by rfl) T.free_enumerate (pa_cons (pv 0) pa_nil)) (pg_tup (by rfl) (pgs_cons (pg_name (i := 3) sc_chosen.nd rfl (Or.inl rfl)) (pgs_cons (pg_name (i := 4) sc_chosen.nd rfl (Or.inr rfl)) pgs_nil))) (pss_one (ps_expr (pe_bm PySem.F.plainAttrs_list PySem.F.slot_list_extend PySem.F.type_list_extend mt_extend (pv 2) (pa_cons (pe_lc (own := [("more", 5)]) (g := gName 5) (tt := tYes) (by rfl) sc_chosen.nd (pi_list (pe_fx F_chosen hr rfl (pa_cons (pe_slice sl_tupA (pv 0) (po_some (pe_op op_add (pv 3) pe_int)) po_none) (pa_cons (pe_op op_sub (pv 1) pe_int) pa_nil)))) (blkOk_by (own := [("more", 5)]) (N := ["names", "many", "found", "at", "name", "more"]) (sc := defScope s_chosen) (by decide +kernel)) (fun _ _ _ _ _ => (pg_name (i := 5) sc_chosen.nd rfl (Or.inl rfl))) (fun _ _ _ _ _ => pts_nil) (fun _ _ _ _ _ => (pe_op (op_catAK K) (pe_tup (pa_cons (pv 4) pa_nil)) (pv 5)))) pa_nil))))) (pss_one (ps_ret (pv 2)))))), ?_⟩
      have m0 : ¬ ((((m + 1 : Nat) : Nat) : Int) = 0) := by omega
      obtain ⟨p, rfl, hp⟩ := id hv
      refine ⟨_, rfl, rfl, _, rfl, iteE false (decide_eq_false fun z => m0 (by injection z)) ?_⟩
      refine ⟨Nat.zero_le _, fun D hD => ?_⟩
      have s0 : Same H (upd H D (.lst [])) := same_upd hD
      refine ⟨_, rfl, p, ns.map V.str, rfl, SqT.of (s0 _ _ hp), for_it walk_pair (fun i σ H' => ∃ u1 u2 us cs, σ = [some (.ref p), some (.int ((m + 1 : Nat) : Int)), some (.ref D), u1, u2, none] ∧ Same H H' ∧ H' D = some (.lst us) ∧ CsAt (off [D] H') us cs ∧ cs ++ chosen (m + 1) (ns.drop i) = chosen (m + 1) ns)
        ⟨none, none, [], [], rfl, s0, upd_same, .nil, rfl⟩ (fun i σ H' _ h => ?_) (fun i x σ B C hi h y => ?_) fun σ B h => ?_⟩
      · obtain ⟨_, _, _, _, _, s1, _⟩ := h
        exact SqT.of (s1 _ _ hp)
      · obtain ⟨u1, u2, us, cs, rfl, s1, eD, hc, eq⟩ := h
        obtain ⟨tq, x1, x2, rfl, ht, rfl, e1, e2⟩ := y
        obtain rfl := Option.some.inj e1
        rw [List.length_map] at hi
        have e3 : x2 = .str ns[i] := by
          have e2' : (ns.map V.str)[i]? = some x2 := e2
          rw [List.getElem?_map, List.getElem?_eq_getElem hi] at e2'
          exact (Option.some.inj e2').symm
        subst e3
        have nD : D ≠ tq := ne_of_none eD ht
        have s2 : Same B (upd B tq (.tup [.int (i : Nat), .str ns[i]])) := same_upd ht
        have dr : ns.drop i = ns[i] :: ns.drop (i + 1) := List.drop_eq_getElem_cons hi
        refine ⟨tq, _, rfl, SqT.of upd_same, rfl, _, _, rfl, _, _, rfl, rfl, ?_⟩
        generalize upd B tq (.tup [.int (i : Nat), .str ns[i]]) = B1 at s2
        refine ⟨_, rfl, .inl ⟨rfl, _, SqL.of (s2 _ _ eD)⟩, ?_⟩
        refine ⟨_, rfl, _, rfl, _, _, rfl, rfl, ((i + 1 : Nat) : Int), rfl, ?_⟩
        dsimp only [tNoPart]
        refine slice_from ((s1.trans s2) _ _ hp) fun tv B2 s3 h3 => ?_
        rw [← List.map_drop] at h3
        refine ⟨_, rfl, _, _, rfl, rfl, tv, ns.drop (i + 1), ?_, h3, by rw [List.length_drop]; omega, fun D1 B3 us1 s4 n1 e4 c4 => ?_⟩
        · show [tv, V.int (((m + 1 : Nat) : Int) - 1)] = _
          rw [show ((m + 1 : Nat) : Int) - 1 = (m : Nat) by omega]
        refine ⟨D1, rfl, ⟨_, SqL.of e4⟩, fun D2 hD2 => ?_⟩
        have c5 : CsAt B3 us1 (chosen m (ns.drop (i + 1))) := c4.mono off_le
        have lc : us1.length ≤ 16 := by
          rw [c5.length]
          refine Nat.le_trans (chosen_len _ _) ?_
          exact Nat.pow_le_pow_right (by decide) (show (ns.drop (i + 1)).length ≤ 4 by rw [List.length_drop]; omega)
        have s34 : Same B B3 := s2.trans (s3.trans s4)
        refine lc_src (walk_list (xs := us1)) (fun A a => SqL.of (a _ _ e4)) hD2 (Nat.le_trans lc (by decide)) (fun j y A => ∀ c, (chosen m (ns.drop (i + 1)))[j]? = some c → TxtAt A y (ns[i] :: c)) (fun j y A A' s z c hc => TrkAt.mono s (z c hc)) (fun j x A ex sA aD Kt kt => ?_) fun A acc sA eA hl hb => ?_
        · obtain ⟨c, ec, pc, rfl, hpc⟩ := Paired.at c5 ex
          refine ⟨_, rfl, (by show 1 ≤ sizeLine; decide), fun q hq => ⟨_, rfl, cat_tup upd_same ((sA.trans (same_upd hq)) _ _ hpc) ?_ fun r A2 s6 h6 => ?_⟩⟩
          · have := (chosen_each _ _ c (List.mem_of_getElem? ec)).2.length_le
            rw [List.length_drop] at this
            rw [List.length_map]
            exact Nat.le_trans (show 1 + c.length ≤ 5 by omega) (by decide)
          · obtain ⟨aL, eL⟩ := aD
            have s7 : Same A A2 := (same_upd hq).trans s6
            refine kt r A2 s7 fun c' hc' => ?_
            rw [ec] at hc'
            obtain rfl := Option.some.inj hc'
            exact TrkAt.off h6 (s7 _ _ eL)
        · have eD2 : A D = some (.lst us) := sA _ _ (s34 _ _ eD)
          have eqs : (cs ++ (chosen m (ns.drop (i + 1))).map (ns[i] :: ·)) ++ chosen (m + 1) (ns.drop (i + 1)) = chosen (m + 1) ns := by
            rw [← eq, dr, List.append_assoc]
            rfl
          have la : acc.length = (chosen m (ns.drop (i + 1))).length := by rw [hl, c5.length]
          have pa : CsAt A acc ((chosen m (ns.drop (i + 1))).map (ns[i] :: ·)) := paired_of (by rw [List.length_map, la]) fun j x c hx hc => by
            rw [List.getElem?_map] at hc
            obtain ⟨c', hc', rfl⟩ := Option.map_eq_some_iff.mp hc
            exact TrkAt.mono off_le (hb j x hx c' hc')
          have tot : us.length + acc.length ≤ 16 := by
            have h1 := congrArg List.length eqs
            rw [List.length_append, List.length_append, List.length_map] at h1
            have h2 : (chosen (m + 1) ns).length ≤ 16 := Nat.le_trans (chosen_len _ _) (Nat.pow_le_pow_right (by decide) h4)
            have h3 := hc.length
            omega
          refine ⟨D, D2, us, acc, rfl, rfl, eD2, eA, Nat.le_trans tot (by decide), ?_⟩
          refine ⟨_, _, us ++ acc, _, rfl, fun b u hb' => ?_, upd_same, ?_, eqs⟩
          · rw [upd_ne (ne_of_none hb' hD)]
            exact sA _ _ (s34 _ _ (s1 _ _ hb'))
          · rw [off_upd (by simp)]
            exact paired_app (hc.mono (Sm.off (Same_sm (s34.trans sA)))) (L2.Paired.mapP pa fun _ _ z => TrkAt.off z eD2)
      · obtain ⟨u1, u2, us, cs, rfl, s1, eD, hc, eq⟩ := h
        refine ⟨_, rfl, k0 D B us s1 hD eD ?_⟩
        rw [List.length_map, List.drop_length] at eq
        have e5 : cs = chosen (m + 1) ns := by
          rw [← eq]
          exact (List.append_nil _).symm
        rw [← e5]
        exact hc
/-- several promises of one def as one -/
theorem fnok_ex {f : Addr} {fd : FuncData} {ps : List Str} {k n : Nat} {sp : Nat → Sp} (h : ∀ m, m ≤ n → FnOk P w K mg base CX0 k f fd ps (sp m)) : FnOk P w K mg base CX0 k f fd ps (fun vs H Q E => ∃ m, m ≤ n ∧ sp m vs H Q E) where
  len := fun vs H Q E z => by
    obtain ⟨m, hm, z⟩ := z
    exact (h m hm).len vs H Q E z
  run := fun A outer s H args us vs Q E hr e0 hb hv z => by
    obtain ⟨m, hm, z⟩ := z
    exact (h m hm).run A outer s H args us vs Q E hr e0 hb hv z
theorem F_chosen (T : Env w K mg) : Fx P w K mg base "chosen" 5 ["names", "many"] (fun vs H Q E => ∃ m, m ≤ 4 ∧ spChosen K m vs H Q E) := by
  obtain ⟨fd, F⟩ := T.d_chosen
  have b : Binds K fd ["names", "many"] [] := F.bindsN fun _ _ _ _ _ _ us hl => match us, hl with | [_, _], _ => rfl
  have all : ∀ m, FnOk P w K mg base CX0 (m + 1) (He.fAd K ("chosen", none)) fd ["names", "many"] (spChosen K m) := fun m => by
    induction m with
    | zero => exact ok_chosen T F 0 0 fun m' e => absurd e (by omega)
    | succ m ih =>
      refine ok_chosen T F (m + 1) (m + 1) fun m' e => ?_
      obtain rfl : m' = m := by omega
      exact ⟨_, fd, T.glo_chosen, F.kp, b, ih⟩
  exact ⟨_, fd, T.glo_chosen, F.kp, b, fnok_ex fun m hm => (all m).mono (by omega)⟩
/-! ### choices_of -/
theorem trk_mono {H H' : Hp} {p : Addr} {xs : List V} (S : Same H H') (h : SqL K H p xs ∨ H p = some (.tup xs)) : SqL K H' p xs ∨ H' p = some (.tup xs) := h.imp (Same.seq S) (S _ _)
theorem trk_seq {H : Hp} {p : Addr} {xs : List V} (h : SqL K H p xs ∨ H p = some (.tup xs)) : SqL K H p xs ∨ SqT K H p xs := h.imp id SqT.of
/-- tuple(xs), xs a list or a tuple: some tuple of the same items -/
def rTupOf (K : PySem.W.Frag) : List V → Hp → VK → Prop := fun xs H Q => ∃ a ys, xs = [V.ref a] ∧ (SqL K H a ys ∨ H a = some (.tup ys)) ∧ ∀ v H', Same H H' → TrkAt H' v ys → Q v H'
theorem call_tupS {X : Cx} : CallR X (.type "tuple") (rTupOf X.K) := fun pins s σ H xs us Q I r h => by
  obtain ⟨a, ys, rfl, h, q⟩ := h
  refine call_tuple_of pins s σ H _ us Q I r ⟨a, ys, rfl, ?_⟩
  rcases h with h | h
  · exact .inl ⟨h, fun l hl => q _ _ (same_upd hl) ⟨l, rfl, upd_same⟩⟩
  · exact .inr ⟨SqT.of h, q _ _ (Same.refl _) ⟨a, rfl, h⟩⟩
def choicesOf (ns : List Str) : List (List Str) := (List.range ns.length).flatMap fun i => chosen (i + 1) ns
theorem flat_snoc {α : Type} (f : Nat → List α) (i : Nat) : (List.range (i + 1)).flatMap f = (List.range i).flatMap f ++ f i := by
  rw [List.range_succ, List.flatMap_append]
  simp
theorem flat_len {α : Type} (f : Nat → List α) (b : Nat) (h : ∀ i, (f i).length ≤ b) : ∀ n, ((List.range n).flatMap f).length ≤ n * b
  | 0 => Nat.zero_le _
  | n + 1 => by
    have := flat_len f b h n
    have := h n
    rw [flat_snoc, List.length_append, Nat.succ_mul]
    omega
theorem chosen16 {m : Nat} {ns : List Str} (h : ns.length ≤ 4) : (chosen m ns).length ≤ 16 := Nat.le_trans (chosen_len _ _) (Nat.pow_le_pow_right (by decide) h)
def spChoices (K : PySem.W.Frag) : Sp := fun vs H Q _ => ∃ p ns, vs = [.ref p] ∧ (SqL K H p ((ns : List Str).map V.str) ∨ H p = some (.tup (ns.map V.str))) ∧ ns.length ≤ 4 ∧ ∀ D H' us, Same H H' → H D = none → H' D = some (.lst us) → CsAt (off [D] H') us (choicesOf ns) → Q (.ref D) H'
theorem sc_choices_of : FnScope ["names", "found", "many"] ["names"] (defScope s_choices_of) := ⟨rfl, rfl, rfl, by decide +kernel, rfl, by decide +kernel, by decide +kernel⟩
theorem F_choices_of (T : Env w K mg) : Fx P w K mg base "choices_of" 6 ["names"] (spChoices K) := by
  obtain ⟨fd, F⟩ := T.d_choices_of
  have F_chosen := F_chosen (P := P) (base := base) T
  refine ⟨_, fd, T.glo_choices_of, F.kp, F.bindsN fun _ _ _ _ _ _ us hl => match us, hl with | [_], _ => rfl, ?_⟩
  refine F.ok sc_choices_of (fun vs H Q E h => ?_) (fun cdv A outer s H vs Q E hr h => ?_)
  · obtain ⟨p, ns, rfl, _⟩ := h
    rfl
  · obtain ⟨p, ns, rfl, hp, h4, k⟩ := h
    refine ⟨_, PSs.nox (pss_cons (ps_set (i := 1) sc_choices_of.nd rfl (Or.inl rfl) (pe_lst pa_nil)) (pss_cons (ps_for PassesOwn.never rfl (pi_range2 rfl T.free_range (pa_cons pe_int (pa_cons (pe_op op_add (pe_callB call_len_seq (by rfl) T.free_len (by decide +kernel) (pa_cons (pv 0) pa_nil)) pe_int) pa_nil))) (pg_name (i := 2) sc_choices_of.nd rfl (Or.inl rfl)) (pss_one (ps_expr (pe_bm PySem.F.plainAttrs_list PySem.F.slot_list_extend PySem.F.type_list_extend mt_extend (pv 1) (pa_cons (pe_fx F_chosen (hr.mono (by decide)) rfl (pa_cons (pe_callTy call_tupS (by rfl) T.free_tuple (by decide +kernel) (pa_cons (pv 0) pa_nil)) (pa_cons (pv 2) pa_nil))) pa_nil))))) (pss_one (ps_ret (pv 1))))), ?_⟩
    refine ⟨Nat.zero_le _, fun D hD => ?_⟩
    have s0 : Same H (upd H D (.lst [])) := same_upd hD
    refine ⟨_, rfl, p, _, rfl, trk_seq (trk_mono s0 hp), ?_⟩
    rw [List.length_map]
    refine ⟨_, _, rfl, rfl, 1, ((ns.length : Nat) : Int) + 1, rfl, ⟨by omega, by omega, by omega, by omega⟩, ?_⟩
    rw [show (((ns.length : Nat) : Int) + 1 - 1).toNat = ns.length by omega]
    refine for_it walk_range (fun i σ H' => ∃ u us, σ = [some (.ref p), some (.ref D), u] ∧ Same H H' ∧ H' D = some (.lst us) ∧ CsAt (off [D] H') us ((List.range i).flatMap fun j => chosen (j + 1) ns))
      ⟨none, [], rfl, s0, upd_same, .nil⟩ (fun _ _ _ _ _ => trivial) (fun i x σ B C hi h y => ?_) fun σ B h => ?_
    · obtain ⟨u, us, rfl, s1, eD, hc⟩ := h
      obtain ⟨rfl, rfl⟩ := y
      refine ⟨_, rfl, .inl ⟨rfl, _, SqL.of eD⟩, ?_⟩
      refine ⟨_, rfl, p, _, rfl, trk_mono s1 hp, fun v B2 s2 h2 => ?_⟩
      refine ⟨_, rfl, i + 1, by omega, v, ns, ?_, h2, h4, fun D1 B3 us1 s3 n1 e3 c3 => ?_⟩
      · show [v, V.int (1 + (i : Int))] = _
        rw [show 1 + (i : Int) = ((i + 1 : Nat) : Int) by omega]
      have s23 := s2.trans s3
      have l1 : us.length ≤ 64 := by
        rw [hc.length]
        have := flat_len (fun j => chosen (j + 1) ns) 16 (fun j => chosen16 h4) i
        omega
      have l2 : us1.length ≤ 16 := by
        rw [c3.length]
        exact chosen16 h4
      refine ⟨D, D1, us, us1, rfl, rfl, s23 _ _ eD, e3, Nat.le_trans (show us.length + us1.length ≤ 80 by omega) (by decide), ?_⟩
      refine ⟨_, us ++ us1, rfl, same_over (s1.trans s23) hD, upd_same, ?_⟩
      rw [off_upd (by simp), flat_snoc]
      exact paired_app (hc.mono (Sm.off (Same_sm s23))) (L2.Paired.mapP (c3.mono off_le) fun _ _ z => TrkAt.off z (s23 _ _ eD))
    · obtain ⟨u, us, rfl, s1, eD, hc⟩ := h
      exact ⟨_, rfl, k D B us s1 hD eD hc⟩
end
end Bx
set_option Elab.async false
set_option linter.all false
set_option maxRecDepth 100000
set_option maxHeartbeats 4000000
/-! BxO: partings, ways. -/
namespace Bx
open PySem PySem.Spec PyProof.Rows L2
/-- a choice parted in two: the first name and these ones, the others -/
def parted (c more : List Str) : List Str × List Str := (c.take 1 ++ more, c.filter fun n => decide (n ∉ c.take 1 ++ more))
def partsOf (c : List Str) : List (List Str × List Str) := (List.range (c.length - 1)).flatMap fun m => (chosen m (c.drop 1)).map (parted c)
section
variable (K : PySem.W.Frag) (H : Hp)
def PairAt (v : V) (p : List Str × List Str) : Prop := ∃ v1 v2, TupAt K H v [v1, v2] ∧ TxtAt H v1 p.1 ∧ TxtAt H v2 p.2
abbrev PsAt (vs : List V) (ps : List (List Str × List Str)) : Prop := Paired (PairAt K H) vs ps
end
section
variable {K : PySem.W.Frag} {H H' : Hp}
theorem PairAt.mono (S : Same H H') {v : V} {p : List Str × List Str} (h : PairAt K H v p) : PairAt K H' v p := by
  obtain ⟨v1, v2, h1, h2, h3⟩ := h
  exact ⟨v1, v2, h1.mono S, TrkAt.mono S h2, TrkAt.mono S h3⟩
theorem PairAt.off {D : Addr} {zs : List V} {v : V} {p : List Str × List Str} (h : PairAt K H v p) (e : H D = some (.lst zs)) : PairAt K (Bx.off [D] H) v p := by
  obtain ⟨v1, v2, h1, h2, h3⟩ := h
  exact ⟨v1, v2, h1.off e, TrkAt.off h2 e, TrkAt.off h3 e⟩
theorem slice_fromT {σ : L2.St} {a : Addr} {xs : List V} {Q : VK} {k : Nat} (h : H a = some (.tup xs)) (q : ∀ v H', Same H H' → TrkAt H' v (xs.drop k) → Q v H') : tNoPart σ H (fun u H3 => rSlA K (.ref a) (some (k : Int)) u H3 Q) := slice_from h q
theorem PsAt.mono (S : Same H H') {vs : List V} {ps : List (List Str × List Str)} (h : PsAt K H vs ps) : PsAt K H' vs ps := L2.Paired.mapP h fun _ _ z => z.mono S
end
section
variable {P : Program} {w : World} {K : PySem.W.Frag} {mg : Str → Option Value} {base : Heap}
def spPartings (K : PySem.W.Frag) : Sp := fun vs H Q _ => ∃ v c, vs = [v] ∧ TxtAt H v c ∧ 1 ≤ c.length ∧ c.length ≤ 4 ∧ ∀ D H' us, Same H H' → H D = none → H' D = some (.lst us) → PsAt K (off [D] H') us (partsOf c) → Q (.ref D) H'
theorem sc_partings_of : FnScope ["choice", "found", "many", "more", "part", "name"] ["choice"] (defScope s_partings_of) := ⟨rfl, rfl, rfl, by decide +kernel, rfl, by decide +kernel, by decide +kernel⟩
theorem F_partings_of (T : Env w K mg) : Fx P w K mg base "partings_of" 6 ["choice"] (spPartings K) := by
  obtain ⟨fd, F⟩ := T.d_partings_of
  have F_chosen := F_chosen (P := P) (base := base) T
  refine ⟨_, fd, T.glo_partings_of, F.kp, F.bindsN fun _ _ _ _ _ _ us hl => match us, hl with | [_], _ => rfl, ?_⟩
  refine F.ok sc_partings_of (fun vs H Q E h => ?_) (fun cdv A outer s H vs Q E hr h => ?_)
  · obtain ⟨v, c, rfl, _⟩ := h
    rfl
  · obtain ⟨v, c, rfl, ⟨p, rfl, hp⟩, h1, h4, k⟩ := h
    refine ⟨_, PSs.nox (pss_cons (ps_set (i := 1) sc_partings_of.nd rfl (Or.inl rfl) (pe_lst pa_nil)) (pss_cons (ps_for PassesOwn.never rfl (pi_range1 rfl T.free_range (pa_cons (pe_op op_sub (pe_callB call_len_seq (by rfl) T.free_len (by decide +kernel) (pa_cons (pv 0) pa_nil)) pe_int) pa_nil)) (pg_name (i := 2) sc_partings_of.nd rfl (Or.inl rfl)) (pss_one (ps_for PassesOwn.never rfl (pi_list (pe_fx F_chosen (hr.mono (by decide)) rfl (pa_cons (pe_slice sl_tupA (pv 0) (po_some pe_int) po_none) (pa_cons (pv 2) pa_nil)))) (pg_name (i := 3) sc_partings_of.nd rfl (Or.inl rfl)) (pss_cons (ps_set (i := 4) sc_partings_of.nd rfl (Or.inr rfl) (pe_op op_catA (pe_slice sl_tupA (pv 0) po_none (po_some pe_int)) (pv 3))) (pss_one (ps_expr (pe_bm PySem.F.plainAttrs_list PySem.F.slot_list_append PySem.F.type_list_append mt_append (pv 1) (pa_cons (pe_tup (pa_cons (pv 4) (pa_cons (pe_callTy call_tupS (by rfl) T.free_tuple (by decide +kernel) (pa_cons (pe_lc (own := [("name", 5)]) (g := gName 5)  (by rfl) sc_partings_of.nd (pi_tup (pv 0)) (blkOk_by (own := [("name", 5)]) (N := ["choice", "found", "many", "more", "part", "name"]) (sc := defScope s_partings_of) (by decide +kernel)) (fun _ _ _ _ _ => (pg_name (i := 5) sc_partings_of.nd rfl (Or.inl rfl))) (fun _ _ _ _ _ => pts_one (pt_cmpR (op_notIn_seqK K) (pv 5) (pv 4) (by rfl))) (fun _ _ _ _ _ => (pv 5))) pa_nil)) pa_nil))) pa_nil)))))))) (pss_one (ps_ret (pv 1))))), ?_⟩
    refine ⟨Nat.zero_le _, fun D hD => ?_⟩
    have s0 : Same H (upd H D (.lst [])) := same_upd hD
    refine ⟨_, rfl, p, _, rfl, .inr (SqT.of (s0 _ _ hp)), ?_⟩
    rw [List.length_map]
    refine ⟨_, _, rfl, rfl, ((c.length : Nat) : Int) - 1, rfl, by omega, by omega, ?_⟩
    rw [show (((c.length : Nat) : Int) - 1).toNat = c.length - 1 by omega]
    refine for_it walk_range (fun i σ H' => ∃ u1 u2 u3 us, σ = [some (.ref p), some (.ref D), u1, u2, u3, none] ∧ Same H H' ∧ H' D = some (.lst us) ∧ PsAt K (off [D] H') us ((List.range i).flatMap fun m => (chosen m (c.drop 1)).map (parted c)))
      ⟨none, none, none, [], rfl, s0, upd_same, .nil⟩ (fun _ _ _ _ _ => trivial) (fun i x σ B C hi h y => ?_) fun σ B h => ?_
    · obtain ⟨u1, u2, u3, us, rfl, s1, eD, hc⟩ := h
      obtain ⟨rfl, rfl⟩ := y
      refine ⟨_, rfl, ((1 : Nat) : Int), rfl, ?_⟩
      refine slice_fromT (s1 _ _ hp) fun tv B2 s2 h2 => ?_
      rw [← List.map_drop] at h2
      refine ⟨_, rfl, i, by omega, tv, c.drop 1, ?_, h2, by rw [List.length_drop]; omega, fun D1 B3 us1 s3 n1 e3 c3 => ?_⟩
      · show [tv, V.int (0 + (i : Int))] = _
        rw [Int.zero_add]
      have s23 : Same C B3 := s2.trans s3
      have nD1 : D1 ≠ D := fun z => by
        have q := s2 _ _ eD
        rw [← z, n1] at q
        cases q
      have dl : (c.drop 1).length ≤ 4 := by rw [List.length_drop]; omega
      have c4 : CsAt (off [D] B3) us1 (chosen i (c.drop 1)) := L2.Paired.mapP (c3.mono off_le) fun _ _ z => TrkAt.off z (s23 _ _ eD)
      have pre : ∀ j, ((List.range i).flatMap fun m => (chosen m (c.drop 1)).map (parted c)).length + j ≤ 64 + j := fun j => by
        have := flat_len (fun m => (chosen m (c.drop 1)).map (parted c)) 16 (fun m => by rw [List.length_map]; exact chosen16 dl) i
        omega
      refine ⟨D1, rfl, ⟨_, SqL.of e3⟩, for_it (walk_list (xs := us1)) (fun j σ H' => ∃ u3 u4 ws, σ = [some (.ref p), some (.ref D), some (.int (0 + (i : Int))), u3, u4, none] ∧ Same H H' ∧ H' D = some (.lst ws) ∧ H' D1 = some (.lst us1) ∧ CsAt (off [D] H') us1 (chosen i (c.drop 1)) ∧ PsAt K (off [D] H') ws (((List.range i).flatMap fun m => (chosen m (c.drop 1)).map (parted c)) ++ ((chosen i (c.drop 1)).take j).map (parted c)))
        ⟨u2, u3, us, rfl, s1.trans s23, s23 _ _ eD, e3, c4, by rw [List.take_zero, List.map_nil, List.append_nil]; exact hc.mono (Sm.off (Same_sm s23))⟩ (fun j σ H' _ h => ?_) (fun j x σ B5 B6 hj h y => ?_) fun σ B5 h => ?_⟩
      · obtain ⟨_, _, _, _, _, _, e, _⟩ := h
        exact SqL.of e
      · obtain ⟨u5, u6, ws, rfl, s5, eD5, eD1, c5, hw⟩ := h
        obtain ⟨rfl, ex⟩ := y
        obtain ⟨more, em, pm, rfl, hpm⟩ := Paired.at c5 ex
        have mem := chosen_each _ _ more (List.mem_of_getElem? em)
        have ml : more.length ≤ 4 := by
          have := mem.2.length_le
          omega
        refine ⟨_, rfl, ((1 : Nat) : Int), rfl, ?_⟩
        refine slice_to (s5 _ _ hp) fun t1 B7 s7 h7 => ?_
        rw [← List.map_take] at h7
        obtain ⟨p1, rfl, hp1⟩ := h7
        refine ⟨_, rfl, cat_tup hp1 ((off_le.trans s7) _ _ hpm) ?_ fun t2 B8 s8 h8 => ?_⟩
        · rw [List.length_map, List.length_map, List.length_take]
          exact Nat.le_trans (show min 1 c.length + more.length ≤ 5 by omega) (by decide)
        rw [← List.map_append] at h8
        obtain ⟨p2, rfl, hp2⟩ := h8
        have s58 : Same B6 B8 := s7.trans s8
        have hpc : SqT K B8 p _ := SqT.of ((s5.trans s58) _ _ hp)
        refine ⟨_, rfl, .inl ⟨rfl, _, SqL.of (s58 _ _ eD5)⟩, ?_⟩
        refine ⟨_, rfl, _, rfl, p, rfl, ⟨_, hpc⟩, fun D2 hD2 => lc_filt (xs := c.map V.str) walk_tup (by show 5 < 6; decide) (fun A a => Same_tup a hpc) hD2 (by rw [List.length_map]; exact Nat.le_trans h4 (by decide)) (fun n => decide (c.getD n Str.empty ∉ c.take 1 ++ more)) (fun n x A ex sA Kb kb => ?_) fun A sA eA => ?_⟩
        · rw [List.getElem?_map] at ex
          obtain ⟨z, ez, rfl⟩ := Option.map_eq_some_iff.mp ex
          have e7 : c.getD n Str.empty = z := by simp [List.getD, ez]
          refine ⟨_, rfl, _, rfl, p2, _, rfl, .inr (SqT.of (sA _ _ hp2)), rfl, flat_strs _, _, rfl, ?_⟩
          rw [show (if true = true then !inV (V.str z) ((c.take 1 ++ more).map V.str) else inV (V.str z) ((c.take 1 ++ more).map V.str)) = !inV (V.str z) ((c.take 1 ++ more).map V.str) from rfl, inV_strs]
          have := kb A (Same.refl _)
          rw [e7] at this
          simpa using this
        · rw [pick_map, pick_filter (fun n => decide (n ∉ c.take 1 ++ more)) 0 c _ (fun n x ex => by
            have e7 : c.getD n Str.empty = x := by simp [List.getD, ex]
            rw [Nat.zero_add, e7])] at eA
          refine ⟨D2, _, rfl, .inl (SqL.of eA), fun v B9 s9 h9 => ⟨(by show 2 ≤ sizeLine; decide), fun q hq => ?_⟩⟩
          have s10 : Same B6 (upd B9 q (.tup [.ref p2, v])) := s58.trans (sA.trans (s9.trans (same_upd hq)))
          have eD10 := s10 _ _ eD5
          have wl := hw.length
          have tl : ((chosen i (c.drop 1)).take j).length ≤ 16 := by
            rw [List.length_take]
            have := chosen16 (m := i) dl
            omega
          have pl := pre 0
          refine ⟨D, ws, .ref q, rfl, rfl, eD10, ?_, ?_⟩
          · rw [wl, List.length_append, List.length_map]
            exact small1000 (by omega)
          refine ⟨_, _, ws ++ [.ref q], rfl, same_over (s5.trans s10) hD, upd_same, ?_, ?_, ?_⟩
          · rw [upd_ne nD1]
            exact s10 _ _ eD1
          · rw [off_upd (by simp)]
            exact c5.mono (Sm.off (Same_sm s10))
          · rw [off_upd (by simp)]
            have e11 : ((chosen i (c.drop 1)).take (j + 1)).map (parted c) = ((chosen i (c.drop 1)).take j).map (parted c) ++ [parted c more] := by
              rw [List.take_add_one, em, List.map_append]
              rfl
            rw [e11, ← List.append_assoc]
            refine paired_app (hw.mono (Sm.off (Same_sm s10))) (.cons ⟨.ref p2, v, ?_, ?_, ?_⟩ .nil)
            · exact TupAt.off ⟨q, rfl, SqT.of upd_same⟩ eD10
            · exact TrkAt.off ⟨p2, rfl, (sA.trans (s9.trans (same_upd hq))) _ _ hp2⟩ eD10
            · exact TrkAt.off (h9.mono (same_upd hq)) eD10
      · obtain ⟨u5, u6, ws, rfl, s5, eD5, eD1, c5, hw⟩ := h
        refine ⟨_, _, _, ws, rfl, s5, eD5, ?_⟩
        rw [flat_snoc]
        have e12 : (chosen i (c.drop 1)).take us1.length = chosen i (c.drop 1) := List.take_of_length_le (by rw [c5.length]; exact Nat.le_refl _)
        rw [e12] at hw
        exact hw
    · obtain ⟨u1, u2, u3, us, rfl, s1, eD, hc⟩ := h
      exact ⟨_, rfl, k D B us s1 hD eD hc⟩
end
end Bx
set_option Elab.async false
set_option linter.all false
set_option maxRecDepth 100000
set_option maxHeartbeats 4000000
/-! BxO2: ways of two, held, with_two. -/
namespace Bx
open PySem PySem.Spec PyProof.Rows L2
/-- the numbers of a range as a list -/
def rngVs (n : Nat) : List V := (List.range n).map fun i => V.int (0 + (i : Nat))
theorem rngVs_at {n i : Nat} {x : V} (e : (rngVs n)[i]? = some x) : i < n ∧ x = .int (0 + (i : Nat)) := by
  unfold rngVs at e
  rw [List.getElem?_map] at e
  obtain ⟨j, ej, rfl⟩ := Option.map_eq_some_iff.mp e
  obtain ⟨hj, e2⟩ := List.getElem?_eq_some_iff.mp ej
  rw [List.getElem_range] at e2
  rw [List.length_range] at hj
  subst e2
  exact ⟨hj, rfl⟩
theorem walk_rng {n : Nat} : Walk (Itr 0 n) (rngVs n).length (fun _ => True) (YAt (rngVs n)) := by
  have e : (rngVs n).length = n := by simp [rngVs]
  rw [e]
  refine walk_range.mono (fun _ _ => trivial) fun i H x H' hi _ y => ⟨y.1, ?_⟩
  rw [y.2]
  unfold rngVs
  rw [List.getElem?_map, List.getElem?_range hi]
  rfl
structure Way where
  o : Fin 6
  k : Fin 3
  t : T3
def waysBy (a b : T3) (o : Fin 6) : List Way := (List.finRange 3).map fun k => ⟨o, k, beside a (b.turn o) k⟩
def ways (a b : T3) : List Way := (List.finRange 6).flatMap (waysBy a b)
def isHeld (ls : List Laid) (t : T3) : Bool := ls.any fun d => le3 d.three.desc t.desc
def stepTwo (a b : Laid) (ls : List Laid) (w : Way) : List Laid := if isHeld ls w.t = true then ls else ls.filter (fun h => !le3 w.t.desc h.three.desc) ++ [⟨.by_ w.k a.paper (b.paper.turn w.o), w.t⟩]
def withTwo (ls : List Laid) (a b : Laid) : List Laid := (ways a.three b.three).foldl (stepTwo a b) ls
section
variable (K : PySem.W.Frag) (H : Hp)
def WayAt (v : V) (w : Way) : Prop := ∃ vt, TupAt K H v [.ref (ordAd K w.o.val), .int (w.k.val : Int), vt] ∧ T3At K H vt w.t
abbrev WsAt (vs : List V) (ws : List Way) : Prop := Paired (WayAt K H) vs ws
abbrev LsAt (vs : List V) (ls : List Laid) : Prop := Paired (LaidAt K H) vs ls
end
section
variable {K : PySem.W.Frag} {H H' : Hp}
theorem WayAt.mono (S : Same H H') {v : V} {w : Way} (h : WayAt K H v w) : WayAt K H' v w := by
  obtain ⟨vt, h1, h2⟩ := h
  exact ⟨vt, h1.mono S, h2.mono S⟩
theorem WayAt.off {D : Addr} {zs : List V} {v : V} {w : Way} (h : WayAt K H v w) (e : H D = some (.lst zs)) : WayAt K (Bx.off [D] H) v w := by
  obtain ⟨vt, h1, h2⟩ := h
  exact ⟨vt, h1.off e, TupAt.off h2 e⟩
theorem WsAt.mono (S : Same H H') {vs : List V} {ws : List Way} (h : WsAt K H vs ws) : WsAt K H' vs ws := L2.Paired.mapP h fun _ _ z => z.mono S
theorem LsAt.mono (S : Same H H') {vs : List V} {ls : List Laid} (h : LsAt K H vs ls) : LsAt K H' vs ls := L2.Paired.mapP h fun _ _ z => z.mono S
end
section
variable {P : Program} {w : World} {K : PySem.W.Frag} {mg : Str → Option Value} {base : Heap}
def spWays (K : PySem.W.Frag) : Sp := fun vs H Q _ => ∃ v u a b, vs = [v, u] ∧ LaidAt K H v a ∧ LaidAt K H u b ∧ ∀ D H' us, Same H H' → H D = none → H' D = some (.lst us) → WsAt K (off [D] H') us (ways a.three b.three) → Q (.ref D) H'
def ordVs (K : PySem.W.Frag) : List V := (List.finRange 6).map fun o => .ref (ordAd K o.val)
theorem ordVs_at {i : Nat} {x : V} (e : (ordVs K)[i]? = some x) : ∃ o : Fin 6, o.val = i ∧ x = .ref (ordAd K o.val) := by
  unfold ordVs at e
  rw [List.getElem?_map] at e
  obtain ⟨o, eo, rfl⟩ := Option.map_eq_some_iff.mp e
  obtain ⟨hi, eo2⟩ := List.getElem?_eq_some_iff.mp eo
  refine ⟨o, ?_, rfl⟩
  rw [← eo2, List.getElem_finRange]
  rfl
theorem ways_snoc (a b : T3) (o : Fin 6) : ((List.finRange 6).take (o.val + 1)).flatMap (waysBy a b) = ((List.finRange 6).take o.val).flatMap (waysBy a b) ++ waysBy a b o := by
  have e : (List.finRange 6)[o.val]? = some o := by
    rw [List.getElem?_eq_getElem (by simp), List.getElem_finRange]
    rfl
  rw [List.take_add_one, e, List.flatMap_append]
  simp
theorem waysBy_len (a b : T3) (o : Fin 6) : (waysBy a b o).length = 3 := by simp [waysBy]
theorem sc_all_ways : FnScope ["one", "other", "found", "order", "turned", "axis"] ["one", "other"] (defScope s_all_ways) := ⟨rfl, rfl, rfl, by decide +kernel, rfl, by decide +kernel, by decide +kernel⟩
theorem F_all_ways (T : Env w K mg) : Fx P w K mg base "all_ways" 2 ["one", "other"] (spWays K) := by
  obtain ⟨fd, F⟩ := T.d_all_ways
  have F_turned_three := F_turned_three (P := P) (base := base) T
  have F_beside := F_beside (P := P) (base := base) T
  refine ⟨_, fd, T.glo_all_ways, F.kp, F.bindsN fun _ _ _ _ _ _ us hl => match us, hl with | [_, _], _ => rfl, ?_⟩
  refine F.ok sc_all_ways (fun vs H Q E h => ?_) (fun cdv A outer s H vs Q E hr h => ?_)
  · obtain ⟨v, u, a, b, rfl, _⟩ := h
    rfl
  · obtain ⟨v, u, a, b, rfl, ha, hb, k⟩ := h
    refine ⟨_, PSs.nox (pss_cons (ps_set (i := 2) sc_all_ways.nd rfl (Or.inl rfl) (pe_lst pa_nil)) (pss_cons (ps_for PassesOwn.never rfl (pi_tup (C8.pe_gc (v := .ref (He.ga K "ORDERS")) rfl ⟨_, T.glo_ORDERS, rfl⟩)) (pg_name (i := 3) sc_all_ways.nd rfl (Or.inr rfl)) (pss_cons (ps_set (i := 4) sc_all_ways.nd rfl (Or.inr rfl) (pe_fx F_turned_three (hr.mono (by decide)) rfl (pa_cons (pe_fld (pv 1) (by rfl)) (pa_cons (pv 3) pa_nil)))) (pss_one (ps_expr (pe_bm PySem.F.plainAttrs_list PySem.F.slot_list_extend PySem.F.type_list_extend mt_extend (pv 2) (pa_cons (pe_lc (own := [("axis", 5)]) (g := gName 5) (tt := tYes) (by rfl) sc_all_ways.nd (pi_range1 rfl T.free_range (pa_cons pe_int pa_nil)) (blkOk_by (own := [("axis", 5)]) (N := ["one", "other", "found", "order", "turned", "axis"]) (sc := defScope s_all_ways) (by decide +kernel)) (fun _ _ _ _ _ => (pg_name (i := 5) sc_all_ways.nd rfl (Or.inl rfl))) (fun _ _ _ _ _ => pts_nil) (fun _ _ _ _ _ => (pe_tup (pa_cons (pv 3) (pa_cons (pv 5) (pa_cons (pe_fx F_beside (hr.mono (by decide)) rfl (pa_cons (pe_fldK K (pv 0) (by rfl)) (pa_cons (pv 4) (pa_cons (pv 5) pa_nil)))) pa_nil)))))) pa_nil)))))) (pss_one (ps_ret (pv 2))))), ?_⟩
    refine ⟨Nat.zero_le _, fun D hD => ?_⟩
    have s0 : Same H (upd H D (.lst [])) := same_upd hD
    obtain ⟨p1, d1, vp1, vt1, f1, rfl, hp1, _, ht1, _⟩ := id ha
    obtain ⟨p2, d2, vp2, vt2, f2, rfl, hp2, _, ht2, _⟩ := id hb
    have G0 : ∀ H, SqT K H (He.ga K "ORDERS") (ordVs K) := fun H => T.orders H
    refine ⟨_, rfl, ⟨_, T.orders _⟩, for_it (walk_tup (xs := ordVs K)) (fun i σ H' => ∃ u1 u2 us, σ = [some (.ref p1), some (.ref p2), some (.ref D), u1, u2, none] ∧ Same H H' ∧ H' D = some (.lst us) ∧ WsAt K (off [D] H') us (((List.finRange 6).take i).flatMap (waysBy a.three b.three)) ∧ us.length = 3 * i)
      ⟨none, none, [], rfl, s0, upd_same, .nil, rfl⟩ (fun _ _ _ _ _ => G0 _) (fun i x σ B C hi h y => ?_) fun σ B h => ?_⟩
    · obtain ⟨u1, u2, us, rfl, s1, eD, hw, hl⟩ := h
      obtain ⟨rfl, ex⟩ := y
      obtain ⟨o, rfl, rfl⟩ := ordVs_at ex
      refine ⟨_, rfl, p2, _, d2, _, _, rfl, s1 _ _ hp2, T.cls_Laid, T.noat_Laid_three, rfl, _, rfl, vt2, _, fun k => .int (b.three.get k), o, rfl, TupAt.mono s1 ht2, ⟨_, rfl, T.ord _ o⟩, fun tv B2 s2 h2 => ?_⟩
      refine ⟨_, rfl, .inl ⟨rfl, _, SqL.of (s2 _ _ eD)⟩, ?_⟩
      refine ⟨3, rfl, by decide, by decide, fun D2 hD2 => lc_src (walk_rng (n := 3)) (fun _ _ => trivial) hD2 (show 3 ≤ sizeLine by decide) (fun i v A => ∀ w, (waysBy a.three b.three o)[i]? = some w → WayAt K A v w) (fun i y A B' s z w hw => (z w hw).mono s) (fun i x A ex sA aD Kt kt => ?_) fun A acc sA eA hl2 hb2 => ?_⟩
      · obtain ⟨hi3, rfl⟩ := rngVs_at ex
        have sB := s1.trans (s2.trans sA)
        refine ⟨_, rfl, _, rfl, _, rfl, p1, _, d1, _, _, rfl, sB _ _ hp1, T.cls_Laid, T.noat_Laid_three, rfl, _, rfl, _, rfl, vt1, tv, a.three, b.three.turn o, ⟨i, hi3⟩, ?_, TupAt.mono sB ht1, TupAt.mono sA h2, fun r A2 s6 t6 => ⟨(by show 3 ≤ sizeLine; decide), fun q hq => ?_⟩⟩
        · show [vt1, tv, V.int (0 + (i : Int))] = _
          rw [Int.zero_add]
        · have s7 : Same A (upd A2 q (.tup [.ref (ordAd K o.val), .int (0 + (i : Int)), r])) := s6.trans (same_upd hq)
          refine kt _ _ s7 fun w hw => ?_
          obtain ⟨aL, eL⟩ := aD
          have ew : w = ⟨o, ⟨i, hi3⟩, beside a.three (b.three.turn o) ⟨i, hi3⟩⟩ := by
            unfold waysBy at hw
            rw [List.getElem?_map, List.getElem?_eq_getElem (by simpa using hi3), List.getElem_finRange] at hw
            exact (Option.some.inj hw).symm
          rw [ew]
          refine WayAt.off ⟨r, ⟨q, rfl, SqT.of ?_⟩, TupAt.mono (same_upd hq) t6⟩ (s7 _ _ eL)
          rw [upd_same, Int.zero_add]
      · have eD2 := sA _ _ (s2 _ _ eD)
        have lacc : acc.length = 3 := hl2
        refine ⟨D, D2, us, acc, rfl, rfl, eD2, eA, ?_, ?_⟩
        · rw [hl, lacc]
          have := o.isLt
          exact Nat.le_trans (show 3 * o.val + 3 ≤ 18 by omega) (by decide)
        refine ⟨_, _, us ++ acc, rfl, same_over (s1.trans (s2.trans sA)) hD, upd_same, ?_, ?_⟩
        · rw [off_upd (by simp), ways_snoc]
          refine paired_app (hw.mono (Sm.off (Same_sm (s2.trans sA)))) (paired_of (by rw [lacc, waysBy_len]) fun j x w hx hw' => ?_)
          exact WayAt.off ((hb2 j x hx w hw').mono off_le) eD2
        · rw [List.length_append, hl, lacc]
          omega
    · obtain ⟨u1, u2, us, rfl, s1, eD, hw, hl⟩ := h
      exact ⟨_, rfl, k D B us s1 hD eD hw⟩
/-! ### held -/
def spIsHeld (K : PySem.W.Frag) : Sp := fun vs H Q _ => ∃ l v us ls t, vs = [.ref l, v] ∧ H l = some (.lst us) ∧ LsAt K H us ls ∧ T3At K H v t ∧ ∀ H', Same H H' → Q (.bl (isHeld ls t)) H'
theorem sc_is_held : FnScope ["listed", "three", "falling", "laid"] ["listed", "three"] (defScope s_is_held) := ⟨rfl, rfl, rfl, by decide +kernel, rfl, by decide +kernel, by decide +kernel⟩
theorem F_is_held (T : Env w K mg) : Fx P w K mg base "is_held" 2 ["listed", "three"] (spIsHeld K) := by
  obtain ⟨fd, F⟩ := T.d_is_held
  have F_Laid_holds := F_Laid_holds (P := P) (base := base) T
  refine ⟨_, fd, T.glo_is_held, F.kp, F.bindsN fun _ _ _ _ _ _ us hl => match us, hl with | [_, _], _ => rfl, ?_⟩
  refine F.ok sc_is_held (fun vs H Q E h => ?_) (fun cdv A outer s H vs Q E hr h => ?_)
  · obtain ⟨l, v, us, ls, t, rfl, _⟩ := h
    rfl
  · obtain ⟨l, v, us, ls, t, rfl, hl, hs, ⟨q, rfl, hq⟩, k⟩ := h
    refine ⟨_, PSs.nox (pss_cons (ps_set (i := 2) sc_is_held.nd rfl (Or.inl rfl) (pe_callBK (cr_sortTR (b := true)) (by rfl) T.free_sorted (by decide +kernel) (pa_cons (pv 1) pa_nil) (pk_cons pe_bl pk_nil))) (pss_cons (ps_for PassesOwn.never rfl (pi_list (pv 0)) (pg_name (i := 3) sc_is_held.nd rfl (Or.inl rfl)) (pss_one (ps_if (pt_val (pe_mx T.cls_Laid F_Laid_holds (hr.mono (by decide)) (pv 3) (pa_cons (pv 2) pa_nil))) (pss_one (ps_ret pe_bl)) pss_nil))) (pss_one (ps_ret pe_bl)))), ?_⟩
    refine ⟨_, rfl, q, t.l, rfl, rfl, hq, (by show 3 < 64; decide), fun ns' f hn ho hf => ?_⟩
    rw [desc_of hn ho]
    have s0 : Same H (upd H f (.lst t.desc.v)) := same_upd hf
    refine ⟨_, rfl, l, rfl, ⟨_, SqL.of (s0 _ _ hl)⟩, for_it (walk_list (xs := us)) (fun i σ H' => ∃ u, σ = [some (.ref l), some (.ref q), some (.ref f), u] ∧ Same H H' ∧ H' f = some (.lst t.desc.v) ∧ isHeld (ls.take i) t = false)
      ⟨none, rfl, s0, upd_same, rfl⟩ (fun i σ H' _ h => ?_) (fun i x σ B C hi h y => ?_) fun σ B h => ?_⟩
    · obtain ⟨_, _, s1, _⟩ := h
      exact SqL.of (s1 _ _ hl)
    · obtain ⟨u, rfl, s1, ef, hn2⟩ := h
      obtain ⟨rfl, ex⟩ := y
      obtain ⟨d, ed, hd⟩ := Paired.at hs ex
      have hd1 := hd.mono s1
      obtain ⟨a, dx, vp, vt, g, rfl, ha, _⟩ := id hd1
      have st : isHeld (ls.take (i + 1)) t = le3 d.three.desc t.desc := by
        have hn3 : (ls.take i).any (fun d => le3 d.three.desc t.desc) = false := hn2
        unfold isHeld
        rw [List.take_add_one, ed, List.any_append, hn3]
        simp
      refine ⟨_, rfl, a, dx, _, rfl, ha, rfl, _, rfl, _, f, d, t.desc, rfl, hd1, ef, fun B2 s2 => ⟨_, rfl, ?_⟩⟩
      refine ite2 (fun hb => ?_) (fun hb => ?_)
      · have e : isHeld ls t = true := by
          unfold isHeld
          exact List.any_eq_true.mpr ⟨d, List.mem_of_getElem? ed, hb⟩
        have := k B2 (s1.trans s2)
        rw [e] at this
        exact this
      · exact ⟨_, rfl, s1.trans s2, s2 _ _ ef, by rw [st]; simpa using hb⟩
    · obtain ⟨u, rfl, s1, ef, hn2⟩ := h
      have e : isHeld ls t = false := by
        rw [← hn2, List.take_of_length_le (by rw [hs.length]; exact Nat.le_refl _)]
      have := k B s1
      rw [e] at this
      exact this
/-! ### with_two -/
theorem stepTwo_len (a b : Laid) (ls : List Laid) (w : Way) : (stepTwo a b ls w).length ≤ ls.length + 1 := by
  unfold stepTwo
  split
  · omega
  · rw [List.length_append]
    have := List.length_filter_le (fun h : Laid => !le3 w.t.desc h.three.desc) ls
    simp
    omega
theorem foldTwo_len (a b : Laid) : ∀ (ws : List Way) (ls : List Laid), (ws.foldl (stepTwo a b) ls).length ≤ ls.length + ws.length
  | [], ls => Nat.le_refl _
  | w :: r, ls => by
    have h1 := foldTwo_len a b r (stepTwo a b ls w)
    have h2 := stepTwo_len a b ls w
    show (r.foldl (stepTwo a b) (stepTwo a b ls w)).length ≤ ls.length + (r.length + 1)
    omega
theorem ways_len (a b : T3) : (ways a b).length = 18 := by simp [ways, waysBy, List.finRange, List.ofFn, Fin.foldr, Fin.foldr.loop]
theorem paired_pick {α β : Type} {R : α → β → Prop} {p : Nat → Bool} {f : β → Bool} : ∀ (k : Nat) {xs : List α} {ys : List β}, Paired R xs ys → (∀ i y, ys[i]? = some y → p (k + i) = f y) → Paired R (pick p k xs) (ys.filter f)
  | _, [], [], .nil, _ => .nil
  | k, x :: xs, y :: ys, .cons r t, h => by
    have h0 : p k = f y := h 0 y rfl
    have ih := paired_pick (p := p) (f := f) (k + 1) t fun i z e => by
      have := h (i + 1) z (by simpa using e)
      rw [← this]
      congr 1
      omega
    show Paired R (if p k = true then x :: pick p (k + 1) xs else pick p (k + 1) xs) _
    rw [List.filter_cons, h0]
    split
    · exact .cons r ih
    · exact ih
theorem make_laid2 {H : Hp} {Q : Addr → Hp → Prop} {E : XK} {vp vt : V} {d : Laid} (hL : LayAt K H vp d.paper) (ht : T3At K H vt d.three) (k : ∀ x H', Same H H' → LaidAt K H' (.ref x) d → Q x H') :
    ∀ x dx, H x = none → H dx = none → dx ≠ x → spLInit K (.ref x :: ([vp, vt] ++ [])) (upd (upd H dx (.own x)) x (.ins (CL K) dx [])) (fun v H2 => v = .non ∧ Q x H2) E := by
  intro x dx a b c
  obtain ⟨p, d', vp', vt', dd, h1, h2, h3, h4, h5⟩ := make_laid (Q := fun v H2 => ∀ x, v = .ref x → Q x H2) (E := E) hL ht (fun v H' s h x e => k x H' s (by rw [← e]; exact h)) x dx a b c
  exact ⟨p, d', vp', vt', dd, h1, h2, h3, h4, fun H' f q1 q2 q3 => ⟨rfl, (h5 H' f q1 q2 q3).2 x rfl⟩⟩
def spWithTwo (K : PySem.W.Frag) : Sp := fun vs H Q _ => ∃ l u v us ls a b, vs = [.ref l, u, v] ∧ H l = some (.lst us) ∧ LsAt K H us ls ∧ LaidAt K H u a ∧ LaidAt K H v b ∧ b.paper.depth ≤ 3 ∧ ls.length ≤ 5000000 ∧
  ∀ r us' H', Same H H' → H' r = some (.lst us') → LsAt K H' us' (withTwo ls a b) → Q (.ref r) H'
theorem sc_with_two : FnScope ["listed", "one", "other", "order", "axis", "three", "laid", "held"] ["listed", "one", "other"] (defScope s_with_two) := ⟨rfl, rfl, rfl, by decide +kernel, rfl, by decide +kernel, by decide +kernel⟩
theorem F_with_two (T : Env w K mg) : Fx P w K mg base "with_two" 6 ["listed", "one", "other"] (spWithTwo K) := by
  obtain ⟨fd, F⟩ := T.d_with_two
  have F_all_ways := F_all_ways (P := P) (base := base) T
  have F_is_held := F_is_held (P := P) (base := base) T
  have F_turned_by := F_turned_by (P := P) (base := base) T 3
  have F_Laid_init := F_Laid_init (P := P) (base := base) T
  have F_Laid_holds := F_Laid_holds (P := P) (base := base) T
  refine ⟨_, fd, T.glo_with_two, F.kp, F.bindsN fun _ _ _ _ _ _ us hl => match us, hl with | [_, _, _], _ => rfl, ?_⟩
  refine F.ok sc_with_two (fun vs H Q E h => ?_) (fun cdv A outer s H vs Q E hr h => ?_)
  · obtain ⟨l, u, v, us, ls, a, b, rfl, _⟩ := h
    rfl
  · obtain ⟨l, u, v, us, ls, a, b, rfl, hl, hs, ha, hb, hd, hz, k⟩ := h
    refine ⟨_, PSs.nox (pss_cons (ps_for PassesOwn.never rfl (pi_list (pe_fx F_all_ways (hr.mono (by decide)) rfl (pa_cons (pv 1) (pa_cons (pv 2) pa_nil)))) (pg_tup (by rfl) (pgs_cons (pg_name (i := 3) sc_with_two.nd rfl (Or.inl rfl)) (pgs_cons (pg_name (i := 4) sc_with_two.nd rfl (Or.inl rfl)) (pgs_cons (pg_name (i := 5) sc_with_two.nd rfl (Or.inl rfl)) pgs_nil)))) (pss_one (ps_if (pt_not (pt_val (pe_fx F_is_held (hr.mono (by decide)) rfl (pa_cons (pv 0) (pa_cons (pv 5) pa_nil))))) (pss_cons (ps_set (i := 6) sc_with_two.nd rfl (Or.inr rfl) (pe_kx F_Laid_init (hr.mono (by decide)) rfl (pa_cons (pe_tup (pa_cons pe_str (pa_cons (pv 4) (pa_cons (pe_fld (pv 1) (by rfl)) (pa_cons (pe_fx F_turned_by (hr.mono (by decide)) rfl (pa_cons (pe_fld (pv 2) (by rfl)) (pa_cons (pv 3) pa_nil))) pa_nil))))) (pa_cons (pv 5) pa_nil)))) (pss_one (ps_set (i := 0) sc_with_two.nd rfl (Or.inl rfl) (pe_op op_cat (pe_lc (own := [("held", 7)]) (g := gName 7)  (by rfl) sc_with_two.nd (pi_list (pv 0)) (blkOk_by (own := [("held", 7)]) (N := ["listed", "one", "other", "order", "axis", "three", "laid", "held"]) (sc := defScope s_with_two) (by decide +kernel)) (fun _ _ _ _ _ => (pg_name (i := 7) sc_with_two.nd rfl (Or.inl rfl))) (fun _ _ _ _ _ => pts_one (pt_not (pt_val (pe_mx T.cls_Laid F_Laid_holds (hr.mono (by decide)) (pv 6) (pa_cons (pe_fldK K (pv 7) (by rfl)) pa_nil))))) (fun _ _ _ _ _ => (pv 7))) (pe_lst (pa_cons (pv 6) pa_nil)))))) pss_nil))) (pss_one (ps_ret (pv 0)))), ?_⟩
    refine ⟨_, rfl, _, rfl, u, v, a, b, rfl, ha, hb, fun D H1 ws s1 nD eD hw => ?_⟩
    have hw1 : WsAt K H1 ws (ways a.three b.three) := hw.mono off_le
    have wl : ws.length = 18 := by rw [hw1.length, ways_len]
    obtain ⟨pa, da, vpa, vta, fa1, rfl, hpa, hLa, _, _⟩ := id ha
    obtain ⟨pb, db, vpb, vtb, fb1, rfl, hpb, hLb, _, _⟩ := id hb
    refine ⟨D, rfl, ⟨_, SqL.of eD⟩, for_it (walk_list (xs := ws)) (fun i σ H' => ∃ r us' o1 o2 o3 o4, σ = [some (.ref r), some (.ref pa), some (.ref pb), o1, o2, o3, o4, none] ∧ Same H1 H' ∧ H' r = some (.lst us') ∧ LsAt K H' us' (((ways a.three b.three).take i).foldl (stepTwo a b) ls))
      ⟨l, us, none, none, none, none, rfl, Same.refl _, s1 _ _ hl, hs.mono s1⟩ (fun i σ H' _ h => ?_) (fun i x σ B C hi h y => ?_) fun σ B h => ?_⟩
    · obtain ⟨_, _, _, _, _, _, _, s2, _⟩ := h
      exact SqL.of (s2 _ _ eD)
    · obtain ⟨r, us', o1, o2, o3, o4, rfl, s2, er, hls⟩ := h
      obtain ⟨rfl, ex⟩ := y
      obtain ⟨wy, ew, vt, ⟨pw, rfl, hpw⟩, hvt⟩ := Paired.at (hw1.mono s2) ex
      have stp : ((ways a.three b.three).take (i + 1)).foldl (stepTwo a b) ls = stepTwo a b (((ways a.three b.three).take i).foldl (stepTwo a b) ls) wy := by
        rw [List.take_add_one, ew, List.foldl_append]
        rfl
      have lsz := foldTwo_len a b ((ways a.three b.three).take i) ls
      rw [List.length_take, ways_len] at lsz
      rw [stp]
      generalize ((ways a.three b.three).take i).foldl (stepTwo a b) ls = lsi at hls lsz
      have ul := hls.length
      have s12 := s1.trans s2
      refine ⟨pw, _, rfl, hpw, rfl, _, _, rfl, _, _, rfl, _, _, rfl, rfl, ?_⟩
      refine ⟨_, rfl, _, rfl, r, vt, us', lsi, wy.t, rfl, er, hls, hvt, fun B2 s3 => ⟨_, rfl, ?_⟩⟩
      cases hh : isHeld lsi wy.t with
      | true =>
        refine iteF ⟨r, us', _, _, _, _, rfl, s2.trans s3, s3 _ _ er, ?_⟩
        unfold stepTwo
        rw [if_pos hh]
        exact hls.mono s3
      | false =>
        have s123 := s12.trans s3
        refine iteT ⟨_, rfl, _, rfl, pa, _, da, _, _, rfl, s123 _ _ hpa, T.cls_Laid, T.noat_Laid_paper, rfl, _, rfl, pb, _, db, _, _, rfl, s123 _ _ hpb, T.cls_Laid, T.noat_Laid_paper, rfl, _, rfl, vpb, b.paper, wy.o, rfl, hLb.mono s123, hd, fun r1 B3 s4 t4 => ?_⟩
        refine ⟨(by show 4 ≤ sizeLine; decide), fun tq htq => ⟨_, rfl, ?_⟩⟩
        have s5 : Same B2 (upd B3 tq (.tup [.str "by", .int (wy.k.val : Int), vpa, r1])) := s4.trans (same_upd htq)
        refine make_laid2 (d := ⟨.by_ wy.k a.paper (b.paper.turn wy.o), wy.t⟩) ⟨vpa, r1, ⟨tq, rfl, SqT.of upd_same⟩, hLa.mono (s123.trans s5), t4.mono (same_upd htq)⟩ (TupAt.mono (s3.trans s5) hvt) fun nx B4 s6 hnv => ?_
        have s36 : Same C B4 := s3.trans (s5.trans s6)
        have hls4 := hls.mono s36
        refine ⟨_, rfl, r, rfl, ⟨_, SqL.of (s36 _ _ er)⟩, fun D2 hD2 => lc_filt (xs := us') walk_list (by show 7 < 8; decide) (fun A s => SqL.of (s _ _ (s36 _ _ er))) hD2 (Nat.le_trans (show us'.length ≤ 5000018 by omega) (by decide)) (fun j => (lsi[j]?).elim false fun h => !le3 wy.t.desc h.three.desc) (fun j x A ex2 sA Kb kb => ?_) fun A sA eA => ?_⟩
        · obtain ⟨h, eh, hx⟩ := Paired.at (hls4.mono sA) ex2
          have hnv2 := hnv.mono sA
          obtain ⟨na, ndx, nvp, nvt, nf, ena, hna, _⟩ := id hnv2
          cases ena
          obtain ⟨xa, xdx, xvp, xvt, xf, rfl, hxa, _, _, hxf⟩ := id hx
          refine ⟨_, rfl, nx, ndx, _, rfl, hna, rfl, _, rfl, xa, _, xdx, _, _, rfl, hxa, T.cls_Laid, T.noat_Laid_falling, rfl, _, xf, _, h.three.desc, rfl, hnv2, hxf, fun A2 s7 => ⟨_, rfl, ?_⟩⟩
          have := kb A2 s7
          rw [eh] at this
          exact this
        · have pk : LsAt K A (pick (fun j => (lsi[j]?).elim false fun h => !le3 wy.t.desc h.three.desc) 0 us') (lsi.filter fun h => !le3 wy.t.desc h.three.desc) := paired_pick 0 (hls4.mono sA) fun j h eh => by
            rw [Nat.zero_add, eh]
            rfl
          have pl := pick_len (fun j => (lsi[j]?).elim false fun h => !le3 wy.t.desc h.three.desc) 0 us'
          refine ⟨_, rfl, (by show 1 ≤ sizeLine; decide), fun l2 hl2 => ?_⟩
          have s8 : Same A (upd A l2 (.lst [.ref nx])) := same_upd hl2
          refine ⟨D2, l2, _, _, rfl, rfl, s8 _ _ eA, upd_same, Nat.le_trans (show (pick (fun j => (lsi[j]?).elim false fun h => !le3 wy.t.desc h.three.desc) 0 us').length + 1 ≤ 5000019 by omega) (by decide), fun r' hr' => ?_⟩
          have s9 : Same A (upd (upd A l2 (.lst [.ref nx])) r' (.lst (pick (fun j => (lsi[j]?).elim false fun h => !le3 wy.t.desc h.three.desc) 0 us' ++ [.ref nx]))) := s8.trans (same_upd hr')
          refine ⟨r', _, _, _, _, _, rfl, s2.trans (s36.trans (sA.trans s9)), upd_same, ?_⟩
          unfold stepTwo
          rw [if_neg (by rw [hh]; exact Bool.false_ne_true)]
          exact paired_app (pk.mono s9) (.cons (hnv.mono (sA.trans s9)) .nil)
    · obtain ⟨r, us', o1, o2, o3, o4, rfl, s2, er, hls⟩ := h
      refine ⟨_, rfl, k r us' B (s1.trans s2) er ?_⟩
      have e : (ways a.three b.three).take ws.length = ways a.three b.three := List.take_of_length_le (by rw [wl, ways_len]; exact Nat.le_refl _)
      rw [e] at hls
      exact hls
end
end Bx
set_option Elab.async false
set_option linter.all false
set_option maxRecDepth 100000
set_option maxHeartbeats 4000000
/-! BxP0: choices and partings, in plain words; the lists of layings. -/
namespace Bx
open PySem PySem.Spec PyProof.Rows L2
/-! ### choices -/
theorem chosen_all : ∀ {ns c : List Str}, c.Sublist ns → c ∈ chosen c.length ns
  | [], c, h => by
    have e : c = [] := List.sublist_nil.mp h
    rw [e]
    simp [chosen]
  | n :: r, [], _ => by simp [chosen]
  | n :: r, x :: c, h => by
    show x :: c ∈ (chosen c.length r).map (n :: ·) ++ chosen (c.length + 1) r
    rcases List.sublist_cons_iff.mp h with h | ⟨d, e, h⟩
    · exact List.mem_append_right _ (chosen_all (c := x :: c) h)
    · injection e with e1 e2
      subst e1 e2
      exact List.mem_append_left _ (List.mem_map.mpr ⟨c, chosen_all h, rfl⟩)
theorem chosen_nodup : ∀ {ns : List Str} (m : Nat), ns.Nodup → (chosen m ns).Nodup
  | ns, 0, _ => by simp [chosen]
  | [], _ + 1, _ => by simp [chosen]
  | n :: r, m + 1, h => by
    obtain ⟨h1, h2⟩ := List.nodup_cons.mp h
    show ((chosen m r).map (n :: ·) ++ chosen (m + 1) r).Nodup
    refine List.nodup_append.mpr ⟨?_, chosen_nodup (m + 1) h2, fun a ha b hb e => ?_⟩
    · exact List.Pairwise.map _ (fun a b hab e => hab (List.cons.inj e).2) (chosen_nodup m h2)
    · obtain ⟨c, _, rfl⟩ := List.mem_map.mp ha
      have := (chosen_each _ _ b hb).2
      rw [← e] at this
      exact h1 (this.subset (List.mem_cons_self ..))
theorem choices_mem {ns c : List Str} : c ∈ choicesOf ns ↔ c ≠ [] ∧ c.Sublist ns := by
  unfold choicesOf
  rw [List.mem_flatMap]
  constructor
  · rintro ⟨i, hi, h⟩
    obtain ⟨h1, h2⟩ := chosen_each _ _ _ h
    exact ⟨fun e => by rw [e] at h1; simp at h1, h2⟩
  · rintro ⟨h1, h2⟩
    have hl := h2.length_le
    have h0 : 0 < c.length := List.length_pos_iff.mpr h1
    refine ⟨c.length - 1, List.mem_range.mpr (by omega), ?_⟩
    rw [show c.length - 1 + 1 = c.length by omega]
    exact chosen_all h2
theorem flat_sorted {α : Type} (f : Nat → List α) (g : α → Nat) (h : ∀ i, ∀ a ∈ f i, g a = i + 1) : ∀ n, ((List.range n).flatMap f).Pairwise fun a b => g a ≤ g b
  | 0 => .nil
  | n + 1 => by
    rw [flat_snoc]
    refine List.pairwise_append.mpr ⟨flat_sorted f g h n, ?_, fun a ha b hb => ?_⟩
    · refine List.pairwise_iff_forall_sublist.mpr fun {a b} s => ?_
      have ha := h n a (s.subset (by simp))
      have hb := h n b (s.subset (by simp))
      omega
    · obtain ⟨i, hi, ha⟩ := List.mem_flatMap.mp ha
      have := h i a ha
      have := h n b hb
      have := List.mem_range.mp hi
      omega
theorem choices_sorted (ns : List Str) : (choicesOf ns).Pairwise fun a b => a.length ≤ b.length := flat_sorted _ _ (fun _ _ h => (chosen_each _ _ _ h).1) _
theorem flat_nodup {α : Type} (f : Nat → List α) (g : α → Nat) (h : ∀ i, ∀ a ∈ f i, g a = i + 1) (nd : ∀ i, (f i).Nodup) : ∀ n, ((List.range n).flatMap f).Nodup
  | 0 => .nil
  | n + 1 => by
    rw [flat_snoc]
    refine List.nodup_append.mpr ⟨flat_nodup f g h nd n, nd n, fun a ha b hb e => ?_⟩
    obtain ⟨i, hi, ha⟩ := List.mem_flatMap.mp ha
    have h1 := h i a ha
    have h2 := h n b hb
    have := List.mem_range.mp hi
    rw [e] at h1
    omega
theorem choices_nodup {ns : List Str} (h : ns.Nodup) : (choicesOf ns).Nodup := flat_nodup _ List.length (fun _ _ h => (chosen_each _ _ _ h).1) (fun i => chosen_nodup _ h) _
/-- shorter choices stand ahead -/
theorem choices_ahead {ns c d : List Str} {i : Nat} (e : (choicesOf ns)[i]? = some c) (hd : d ≠ []) (hs : d.Sublist ns) (hl : d.length < c.length) : d ∈ (choicesOf ns).take i := by
  obtain ⟨j, hj, ej⟩ := List.mem_iff_getElem.mp (choices_mem.mpr ⟨hd, hs⟩)
  obtain ⟨hi, ei⟩ := List.getElem?_eq_some_iff.mp e
  have hji : j < i := by
    rcases Nat.lt_or_ge j i with z | z
    · exact z
    · exfalso
      rcases Nat.lt_or_eq_of_le z with z | z
      · have := List.pairwise_iff_getElem.mp (choices_sorted ns) i j hi hj z
        rw [ei, ej] at this
        omega
      · subst z
        rw [ei] at ej
        rw [ej] at hl
        omega
  rw [← ej]
  exact List.mem_take_iff_getElem.mpr ⟨j, by omega, rfl⟩
/-! ### partings -/
theorem parted_perm {c more : List Str} (nd : c.Nodup) (h : more.Sublist (c.drop 1)) : ((parted c more).1 ++ (parted c more).2).Perm c ∧ (parted c more).1.Sublist c := by
  have s : (c.take 1 ++ more).Sublist c := by
    have := (List.Sublist.refl (c.take 1)).append h
    rwa [List.take_append_drop] at this
  refine ⟨?_, s⟩
  show ((c.take 1 ++ more) ++ c.filter fun n => decide (n ∉ c.take 1 ++ more)).Perm c
  generalize c.take 1 ++ more = p at s
  have ndp := nd.sublist s
  have e1 : (c.filter fun n => decide (n ∈ p)).Perm p := by
    refine (List.perm_ext_iff_of_nodup (nd.filter _) ndp).mpr fun a => ?_
    rw [List.mem_filter, decide_eq_true_iff]
    exact ⟨fun h => h.2, fun h => ⟨s.subset h, h⟩⟩
  have e2 := List.filter_append_perm (fun n => decide (n ∈ p)) c
  refine (e1.symm.append_right _).trans ?_
  refine List.Perm.trans (List.Perm.of_eq ?_) e2
  congr 1
  refine List.filter_congr fun x _ => ?_
  simp
theorem parts_mem {c : List Str} {p : List Str × List Str} (nd : c.Nodup) (h : p ∈ partsOf c) : (p.1 ++ p.2).Perm c ∧ p.1.Sublist c ∧ p.2.Sublist c ∧ p.1 ≠ [] ∧ p.2 ≠ [] := by
  unfold partsOf at h
  obtain ⟨m, hm, h⟩ := List.mem_flatMap.mp h
  obtain ⟨more, hmore, rfl⟩ := List.mem_map.mp h
  obtain ⟨h1, h2⟩ := chosen_each _ _ _ hmore
  obtain ⟨h3, h4⟩ := parted_perm nd h2
  have hm2 := List.mem_range.mp hm
  have l1 : (parted c more).1.length = 1 + m := by
    show (c.take 1 ++ more).length = 1 + m
    rw [List.length_append, List.length_take, h1]
    omega
  have l2 := h3.length_eq
  rw [List.length_append, l1] at l2
  refine ⟨h3, h4, List.filter_sublist, fun e => ?_, fun e => ?_⟩
  · rw [e] at l1
    simp at l1
    omega
  · rw [e] at l2
    simp at l2
    omega
theorem chosen_sum : ∀ (l : List Str) (M : Nat), ((List.range M).flatMap fun m => chosen m l).length ≤ 2 ^ l.length
  | [], M => by
    induction M with
    | zero => exact Nat.zero_le _
    | succ M ih =>
      rw [flat_snoc, List.length_append]
      cases M with
      | zero => simp [chosen]
      | succ M =>
        rw [show (chosen (M + 1) ([] : List Str)) = [] by simp [chosen]]
        simpa using ih
  | n :: r, M => by
    have key : ∀ M, ((List.range (M + 1)).flatMap fun m => chosen m (n :: r)).length = ((List.range M).flatMap fun m => chosen m r).length + ((List.range (M + 1)).flatMap fun m => chosen m r).length := fun M => by
      induction M with
      | zero => simp [chosen]
      | succ M ih =>
        rw [flat_snoc (fun m => chosen m (n :: r)), List.length_append, ih, flat_snoc (fun m => chosen m r) M, flat_snoc (fun m => chosen m r) (M + 1), List.length_append, List.length_append]
        rw [show (chosen (M + 1) (n :: r)).length = (chosen M r).length + (chosen (M + 1) r).length by
          show ((chosen M r).map (n :: ·) ++ chosen (M + 1) r).length = _
          rw [List.length_append, List.length_map]]
        rw [flat_snoc (fun m => chosen m r) M, List.length_append]
        omega
    cases M with
    | zero => exact Nat.zero_le _
    | succ M =>
      rw [key]
      have h1 := chosen_sum r M
      have h2 := chosen_sum r (M + 1)
      rw [List.length_cons, Nat.pow_succ]
      omega
theorem parts_len (c : List Str) (h : c.length ≤ 4) : (partsOf c).length ≤ 8 := by
  have e : (partsOf c).length = ((List.range (c.length - 1)).flatMap fun m => chosen m (c.drop 1)).length := by
    unfold partsOf
    generalize c.length - 1 = M
    induction M with
    | zero => rfl
    | succ M ih => rw [flat_snoc, flat_snoc, List.length_append, List.length_append, ih, List.length_map]
  rw [e]
  refine Nat.le_trans (chosen_sum _ _) ?_
  have : (c.drop 1).length ≤ 3 := by rw [List.length_drop]; omega
  exact Nat.pow_le_pow_right (by decide) this
/-! ### the lists -/
abbrev Lists := List (List Str × List Laid)
def getL (acc : Lists) (c : List Str) : List Laid := ((acc.find? fun q => decide (q.1 = c)).map (·.2)).getD []
def laidStart (S : Str → T3) (c : List Str) : List Laid := if c.length = 1 then [⟨.one (c.getD 0 Str.empty) 0, S (c.getD 0 Str.empty)⟩] else []
def laidOne (rest : List Laid) (ls : List Laid) (one : Laid) : List Laid := rest.foldl (fun ls other => withTwo ls one other) ls
def laidPart (acc : Lists) (ls : List Laid) (p : List Str × List Str) : List Laid := (getL acc p.1).foldl (laidOne (getL acc p.2)) ls
def laidOf (S : Str → T3) (acc : Lists) (c : List Str) : List Laid := (partsOf c).foldl (laidPart acc) (laidStart S c)
def laidStep (S : Str → T3) (acc : Lists) (c : List Str) : Lists := acc ++ [(c, laidOf S acc c)]
def laidLists (S : Str → T3) (ns : List Str) : Lists := (choicesOf ns).foldl (laidStep S) []
/-- how many layings a choice of so many has at most -/
def mostOf : Nat → Nat
  | 0 => 0
  | 1 => 1
  | 2 => 144
  | 3 => 20736
  | _ => 3000000
theorem withTwo_len (ls : List Laid) (a b : Laid) : (withTwo ls a b).length ≤ ls.length + 18 := by
  have := foldTwo_len a b (ways a.three b.three) ls
  rwa [ways_len] at this
theorem laidOne_len (rest : List Laid) : ∀ (ls : List Laid) (one : Laid), (laidOne rest ls one).length ≤ ls.length + 18 * rest.length := by
  induction rest with
  | nil =>
    intro ls one
    unfold laidOne
    rw [List.foldl_nil]
    exact Nat.le_add_right _ _
  | cons r t ih =>
    intro ls one
    have h1 := ih (withTwo ls one r) one
    have h2 := withTwo_len ls one r
    have e : laidOne (r :: t) ls one = laidOne t (withTwo ls one r) one := by
      unfold laidOne
      rw [List.foldl_cons]
    rw [e, List.length_cons]
    omega
theorem laidPart_len (acc : Lists) (ls : List Laid) (p : List Str × List Str) : (laidPart acc ls p).length ≤ ls.length + 18 * (getL acc p.2).length * (getL acc p.1).length := by
  unfold laidPart
  generalize getL acc p.1 = os
  induction os generalizing ls with
  | nil =>
    rw [List.foldl_nil]
    exact Nat.le_add_right _ _
  | cons o t ih =>
    have h1 := ih (laidOne (getL acc p.2) ls o)
    have h2 := laidOne_len (getL acc p.2) ls o
    rw [List.foldl_cons, List.length_cons, Nat.mul_add, Nat.mul_one]
    omega
/-! ### what is laid lies as it says -/
theorem get_turn (t : T3) (o : Fin 6) (k : Fin 3) : (t.turn o).get k = t.get (oAt o k) := by
  match k with
  | 0 => rfl
  | 1 => rfl
  | 2 => rfl
theorem T3.ext' {a b : T3} (h : ∀ k : Fin 3, a.get k = b.get k) : a = b := by
  obtain ⟨x, y, z⟩ := a
  obtain ⟨x', y', z'⟩ := b
  have h0 : x = x' := h 0
  have h1 : y = y' := h 1
  have h2 : z = z' := h 2
  rw [h0, h1, h2]
theorem get_beside (a b : T3) (k j : Fin 3) : (beside a b k).get j = if j = k then a.get k + b.get k else max (a.get j) (b.get j) := by
  match k, j with
  | 0, 0 => rfl
  | 0, 1 => rfl
  | 0, 2 => rfl
  | 1, 0 => rfl
  | 1, 1 => rfl
  | 1, 2 => rfl
  | 2, 0 => rfl
  | 2, 1 => rfl
  | 2, 2 => rfl
theorem turn_turn (t : T3) (p o : Fin 6) : t.turn (oTurn p o) = (t.turn p).turn o := T3.ext' fun k => by rw [get_turn, get_turn, get_turn, oTurn_at]
theorem beside_turn (a b : T3) (k : Fin 3) (o : Fin 6) : beside (a.turn o) (b.turn o) (oIdx o k) = (beside a b k).turn o := T3.ext' fun j => by
  rw [get_turn, get_beside, get_beside, get_turn, get_turn, get_turn, get_turn, oIdx_at]
  by_cases e : j = oIdx o k
  · rw [if_pos e, if_pos (by rw [e, oIdx_at])]
  · rw [if_neg e, if_neg fun z => e (by rw [← z, oAt_idx])]
theorem Lay.names_turn : ∀ (L : Lay) (o : Fin 6), (L.turn o).names = L.names
  | .one _ _, _ => rfl
  | .by_ _ a b, o => by
    show (a.turn o).names ++ (b.turn o).names = a.names ++ b.names
    rw [Lay.names_turn a o, Lay.names_turn b o]
theorem Lay.span_turn (S : Str → T3) : ∀ (L : Lay) (o : Fin 6), (L.turn o).span S = (L.span S).turn o
  | .one n p, o => turn_turn (S n) p o
  | .by_ k a b, o => by
    show beside ((a.turn o).span S) ((b.turn o).span S) (oIdx o k) = (beside (a.span S) (b.span S) k).turn o
    rw [Lay.span_turn S a o, Lay.span_turn S b o, beside_turn]
theorem mem_ways {a b : T3} {w : Way} (h : w ∈ ways a b) : w.t = beside a (b.turn w.o) w.k := by
  unfold ways waysBy at h
  obtain ⟨o, _, h⟩ := List.mem_flatMap.mp h
  obtain ⟨k, _, rfl⟩ := List.mem_map.mp h
  rfl
theorem mem_stepTwo {a b d : Laid} {ls : List Laid} {w : Way} (h : d ∈ stepTwo a b ls w) : d ∈ ls ∨ d = ⟨.by_ w.k a.paper (b.paper.turn w.o), w.t⟩ := by
  unfold stepTwo at h
  split at h
  · exact .inl h
  · rcases List.mem_append.mp h with z | z
    · exact .inl (List.mem_filter.mp z).1
    · exact .inr (List.mem_singleton.mp z)
theorem mem_foldTwo {a b d : Laid} : ∀ {ws : List Way} {ls : List Laid}, d ∈ ws.foldl (stepTwo a b) ls → d ∈ ls ∨ ∃ w ∈ ws, d = ⟨.by_ w.k a.paper (b.paper.turn w.o), w.t⟩
  | [], _, h => .inl h
  | w :: r, ls, h => by
    rw [List.foldl_cons] at h
    rcases mem_foldTwo h with z | ⟨w', h1, h2⟩
    · rcases mem_stepTwo z with z | z
      · exact .inl z
      · exact .inr ⟨w, List.mem_cons_self .., z⟩
    · exact .inr ⟨w', List.mem_cons_of_mem _ h1, h2⟩
/-- a laying with its own sides, of just these parcels -/
def LaidOk (S : Str → T3) (c : List Str) (d : Laid) : Prop := d.paper.names.Perm c ∧ d.three = d.paper.span S
theorem withTwo_ok {S : Str → T3} {c c1 c2 : List Str} {ls : List Laid} {a b : Laid} (hp : (c1 ++ c2).Perm c) (h : ∀ d ∈ ls, LaidOk S c d) (ha : LaidOk S c1 a) (hb : LaidOk S c2 b) : ∀ d ∈ withTwo ls a b, LaidOk S c d := fun d hd => by
  unfold withTwo at hd
  rcases mem_foldTwo hd with z | ⟨w, hw, rfl⟩
  · exact h d z
  · refine ⟨?_, ?_⟩
    · show (a.paper.names ++ (b.paper.turn w.o).names).Perm c
      rw [Lay.names_turn]
      exact (ha.1.append hb.1).trans hp
    · show w.t = beside (a.paper.span S) ((b.paper.turn w.o).span S) w.k
      rw [mem_ways hw, ha.2, hb.2, Lay.span_turn]
theorem laidOne_ok {S : Str → T3} {c c1 c2 : List Str} {one : Laid} (hp : (c1 ++ c2).Perm c) (ha : LaidOk S c1 one) : ∀ {rest ls : List Laid}, (∀ d ∈ rest, LaidOk S c2 d) → (∀ d ∈ ls, LaidOk S c d) → ∀ d ∈ laidOne rest ls one, LaidOk S c d := by
  intro rest
  induction rest with
  | nil =>
    intro ls _ h
    unfold laidOne
    rw [List.foldl_nil]
    exact h
  | cons r t ih =>
    intro ls hr h
    have e : laidOne (r :: t) ls one = laidOne t (withTwo ls one r) one := by
      unfold laidOne
      rw [List.foldl_cons]
    rw [e]
    exact ih (fun d hd => hr d (List.mem_cons_of_mem _ hd)) (withTwo_ok hp h ha (hr r (List.mem_cons_self ..)))
theorem foldOne_ok {S : Str → T3} {c c1 c2 : List Str} (hp : (c1 ++ c2).Perm c) {rest : List Laid} (hr : ∀ d ∈ rest, LaidOk S c2 d) : ∀ {os ls : List Laid}, (∀ d ∈ os, LaidOk S c1 d) → (∀ d ∈ ls, LaidOk S c d) → ∀ d ∈ os.foldl (laidOne rest) ls, LaidOk S c d := by
  intro os
  induction os with
  | nil =>
    intro ls _ h
    rw [List.foldl_nil]
    exact h
  | cons o t ih =>
    intro ls ho h
    rw [List.foldl_cons]
    exact ih (fun d hd => ho d (List.mem_cons_of_mem _ hd)) (laidOne_ok hp (ho o (List.mem_cons_self ..)) hr h)
/-- lists whose layings are what they say -/
def ListsOk (S : Str → T3) (acc : Lists) : Prop := ∀ q ∈ acc, (∀ d ∈ q.2, LaidOk S q.1 d) ∧ q.2.length ≤ mostOf q.1.length
theorem getL_ok {S : Str → T3} {acc : Lists} (h : ListsOk S acc) (c : List Str) : (∀ d ∈ getL acc c, LaidOk S c d) ∧ (getL acc c).length ≤ mostOf c.length := by
  unfold getL
  cases e : acc.find? fun q => decide (q.1 = c) with
  | none => exact ⟨fun d hd => by simp at hd, Nat.zero_le _⟩
  | some q =>
    have h1 := List.mem_of_find?_eq_some e
    have h2 := List.find?_some e
    have h3 : q.1 = c := of_decide_eq_true h2
    have := h q h1
    rw [h3] at this
    exact this
/-- what one parting gives at most -/
def mostPart : Nat → Nat
  | 2 => 1
  | 3 => 144
  | _ => 20736
theorem part_small {S : Str → T3} {acc : Lists} (h : ListsOk S acc) {c : List Str} {p : List Str × List Str} (nd : c.Nodup) (h4 : c.length ≤ 4) (hp : p ∈ partsOf c) : (getL acc p.2).length * (getL acc p.1).length ≤ mostPart c.length := by
  obtain ⟨h1, _, _, h5, h6⟩ := parts_mem nd hp
  have l := h1.length_eq
  rw [List.length_append] at l
  have l1 := List.length_pos_iff.mpr h5
  have l2 := List.length_pos_iff.mpr h6
  refine Nat.le_trans (Nat.mul_le_mul (getL_ok h p.2).2 (getL_ok h p.1).2) ?_
  generalize p.1.length = i at *
  generalize p.2.length = j at *
  rw [← l]
  have hi : i ≤ 3 := by omega
  have hj : j ≤ 3 := by omega
  match i, j, hi, hj, l1, l2 with
  | 1, 1, _, _, _, _ => decide
  | 1, 2, _, _, _, _ => decide
  | 1, 3, _, _, _, _ => decide
  | 2, 1, _, _, _, _ => decide
  | 2, 2, _, _, _, _ => decide
  | 3, 1, _, _, _, _ => decide
  | 2, 3, _, _, _, _ => omega
  | 3, 2, _, _, _, _ => omega
  | 3, 3, _, _, _, _ => omega
theorem foldPart_small {S : Str → T3} {acc : Lists} (h : ListsOk S acc) {c : List Str} (nd : c.Nodup) (h4 : c.length ≤ 4) : ∀ {ps : List (List Str × List Str)} {ls : List Laid}, (∀ p ∈ ps, p ∈ partsOf c) → (ps.foldl (laidPart acc) ls).length ≤ ls.length + 18 * mostPart c.length * ps.length := by
  intro ps
  induction ps with
  | nil =>
    intro ls _
    rw [List.foldl_nil]
    exact Nat.le_add_right _ _
  | cons p t ih =>
    intro ls hp
    rw [List.foldl_cons, List.length_cons]
    have h1 := ih (ls := laidPart acc ls p) fun q hq => hp q (List.mem_cons_of_mem _ hq)
    have h2 := laidPart_len acc ls p
    have h3 := part_small h nd h4 (hp p (List.mem_cons_self ..))
    have h5 : 18 * (getL acc p.2).length * (getL acc p.1).length ≤ 18 * mostPart c.length := by
      rw [Nat.mul_assoc]
      exact Nat.mul_le_mul_left _ h3
    rw [Nat.mul_add, Nat.mul_one]
    omega
theorem foldPart_ok {S : Str → T3} {acc : Lists} (h : ListsOk S acc) {c : List Str} (nd : c.Nodup) : ∀ {ps : List (List Str × List Str)} {ls : List Laid}, (∀ p ∈ ps, p ∈ partsOf c) → (∀ d ∈ ls, LaidOk S c d) → ∀ d ∈ ps.foldl (laidPart acc) ls, LaidOk S c d := by
  intro ps
  induction ps with
  | nil =>
    intro ls _ hl
    rw [List.foldl_nil]
    exact hl
  | cons p t ih =>
    intro ls hp hl
    rw [List.foldl_cons]
    refine ih (fun q hq => hp q (List.mem_cons_of_mem _ hq)) ?_
    obtain ⟨h1, _⟩ := parts_mem nd (hp p (List.mem_cons_self ..))
    unfold laidPart
    exact foldOne_ok h1 (getL_ok h p.2).1 (getL_ok h p.1).1 hl
theorem start_ok (S : Str → T3) (c : List Str) : ∀ d ∈ laidStart S c, LaidOk S c d := fun d hd => by
  unfold laidStart at hd
  split at hd
  · rename_i h
    obtain rfl := List.mem_singleton.mp hd
    match c, h with
    | [n], _ => exact ⟨List.Perm.refl _, rfl⟩
  · simp at hd
theorem laidOf_ok {S : Str → T3} {acc : Lists} (h : ListsOk S acc) {c : List Str} (nd : c.Nodup) (h1 : 1 ≤ c.length) (h4 : c.length ≤ 4) : (∀ d ∈ laidOf S acc c, LaidOk S c d) ∧ (laidOf S acc c).length ≤ mostOf c.length := by
  refine ⟨foldPart_ok h nd (fun p hp => hp) (start_ok S c), ?_⟩
  have l1 := foldPart_small h nd h4 (ps := partsOf c) (ls := laidStart S c) fun p hp => hp
  have l2 := parts_len c h4
  refine Nat.le_trans l1 ?_
  have l3 : (partsOf c).length = 0 ∨ 2 ≤ c.length := by
    rcases Nat.lt_or_ge c.length 2 with z | z
    · left
      unfold partsOf
      rw [show c.length - 1 = 0 by omega]
      rfl
    · exact .inr z
  have l4 : (laidStart S c).length = if c.length = 1 then 1 else 0 := by
    unfold laidStart
    split <;> rfl
  rw [l4]
  have l5 : 18 * mostPart c.length * (partsOf c).length ≤ 18 * mostPart c.length * 8 := Nat.mul_le_mul_left _ l2
  generalize c.length = n at *
  match n, h1, h4, l3, l5 with
  | 1, _, _, l3, _ =>
    rcases l3 with z | z
    · rw [z]
      decide
    · omega
  | 2, _, _, _, l5 => exact Nat.le_trans (Nat.add_le_add_left l5 _) (by decide)
  | 3, _, _, _, l5 => exact Nat.le_trans (Nat.add_le_add_left l5 _) (by decide)
  | 4, _, _, _, l5 => exact Nat.le_trans (Nat.add_le_add_left l5 _) (by decide)
def upTo (S : Str → T3) (ns : List Str) (i : Nat) : Lists := ((choicesOf ns).take i).foldl (laidStep S) []
theorem fold_keys (S : Str → T3) : ∀ (cs : List (List Str)) (acc : Lists), (cs.foldl (laidStep S) acc).map (·.1) = acc.map (·.1) ++ cs
  | [], acc => by simp
  | c :: r, acc => by
    rw [List.foldl_cons, fold_keys S r (laidStep S acc c)]
    unfold laidStep
    simp
theorem upTo_keys (S : Str → T3) (ns : List Str) (i : Nat) : (upTo S ns i).map (·.1) = (choicesOf ns).take i := by
  unfold upTo
  rw [fold_keys]
  simp
theorem upTo_succ {S : Str → T3} {ns c : List Str} {i : Nat} (e : (choicesOf ns)[i]? = some c) : upTo S ns (i + 1) = laidStep S (upTo S ns i) c := by
  unfold upTo
  rw [List.take_add_one, e, List.foldl_append]
  rfl
theorem upTo_all (S : Str → T3) (ns : List Str) : upTo S ns (choicesOf ns).length = laidLists S ns := by
  unfold upTo laidLists
  rw [List.take_length]
theorem upTo_ok {S : Str → T3} {ns : List Str} (nd : ns.Nodup) (h4 : ns.length ≤ 4) : ∀ i, ListsOk S (upTo S ns i)
  | 0 => fun q hq => by simp [upTo] at hq
  | i + 1 => by
    have ih := upTo_ok (S := S) nd h4 i
    cases e : (choicesOf ns)[i]? with
    | none =>
      have e2 : upTo S ns (i + 1) = upTo S ns i := by
        unfold upTo
        rw [List.take_add_one, e]
        simp
      rw [e2]
      exact ih
    | some c =>
      rw [upTo_succ e]
      obtain ⟨h1, h2⟩ := choices_mem.mp (List.mem_of_getElem? e)
      intro q hq
      rcases List.mem_append.mp hq with z | z
      · exact ih q z
      · obtain rfl := List.mem_singleton.mp z
        exact laidOf_ok ih (nd.sublist h2) (List.length_pos_iff.mpr h1) (Nat.le_trans h2.length_le h4)
end Bx
set_option Elab.async false
set_option linter.all false
set_option maxRecDepth 100000
set_option maxHeartbeats 1000000
/-! BxP: laid_lists. -/
namespace Bx
open PySem PySem.Spec PyProof.Rows L2
abbrev keyOf (c : List Str) : List Key := c.map Sum.inr
theorem key_v (c : List Str) : (keyOf c).map kV = c.map V.str := by
  rw [List.map_map]
  rfl
theorem key_inj {a b : List Str} (h : keyOf a = keyOf b) : a = b := by
  induction a generalizing b with
  | nil =>
    cases b with
    | nil => rfl
    | cons _ _ => cases h
  | cons x a ih =>
    cases b with
    | nil => cases h
    | cons y b =>
      injection h with h1 h2
      injection h1 with h1
      rw [h1, ih h2]
theorem foldOne_len (rest : List Laid) : ∀ (os ls : List Laid), (os.foldl (laidOne rest) ls).length ≤ ls.length + 18 * rest.length * os.length
  | [], ls => by
    rw [List.foldl_nil]
    exact Nat.le_add_right _ _
  | o :: t, ls => by
    have h1 := foldOne_len rest t (laidOne rest ls o)
    have h2 := laidOne_len rest ls o
    rw [List.foldl_cons, List.length_cons, Nat.mul_add, Nat.mul_one]
    omega
theorem choices_len {ns : List Str} (h : ns.length ≤ 4) : (choicesOf ns).length ≤ 16 := by
  have h1 := chosen_sum ns (ns.length + 1)
  rw [List.range_succ_eq_map, List.flatMap_cons, List.flatMap_map, List.length_append] at h1
  have h2 : (2 : Nat) ^ ns.length ≤ 2 ^ 4 := Nat.pow_le_pow_right (by decide) h
  have h3 : (choicesOf ns).length = (List.flatMap (fun a => chosen a.succ ns) (List.range ns.length)).length := rfl
  omega
theorem take_not {α : Type} {l : List α} {c : α} {i : Nat} (nd : l.Nodup) (e : l[i]? = some c) : c ∉ l.take i := by
  intro z
  rw [← List.take_append_drop i l] at nd
  refine (List.nodup_append.mp nd).2.2 c z c (List.mem_of_getElem? (i := 0) ?_) rfl
  rw [List.getElem?_drop]
  exact e
theorem off_mono {S : List Addr} {H H' : Hp} (h : Same H H') : Same (Bx.off S H) (Bx.off S H') := fun b u z => by
  by_cases m : b ∈ S
  · have : Bx.off S H b = none := if_pos m
    rw [this] at z
    cases z
  · rw [off_out m] at z ⊢
    exact h _ _ z
section
variable (K : PySem.W.Frag) (H : Hp)
def EntAt (kv : List Key × V) (q : List Str × List Laid) : Prop := kv.1 = keyOf q.1 ∧ ∃ l us, kv.2 = .ref l ∧ H l = some (.lst us) ∧ LsAt K H us q.2
abbrev DsAt (kvs : List (List Key × V)) (acc : Lists) : Prop := Paired (EntAt K H) kvs acc
end
theorem EntAt.mono {K : PySem.W.Frag} {H H' : Hp} (S : Same H H') {kv : List Key × V} {q : List Str × List Laid} (h : EntAt K H kv q) : EntAt K H' kv q := by
  obtain ⟨h1, l, us, h2, h3, h4⟩ := h
  exact ⟨h1, l, us, h2, S _ _ h3, h4.mono S⟩
theorem DsAt.mono {K : PySem.W.Frag} {H H' : Hp} (S : Same H H') {kvs : List (List Key × V)} {acc : Lists} (h : DsAt K H kvs acc) : DsAt K H' kvs acc := L2.Paired.mapP h fun _ _ z => z.mono S
theorem DsAt.get {K : PySem.W.Frag} {H : Hp} {c : List Str} : ∀ {kvs : List (List Key × V)} {acc : Lists}, DsAt K H kvs acc → c ∈ acc.map (·.1) → ∃ l us, valV kvs (keyOf c) = some (.ref l) ∧ H l = some (.lst us) ∧ LsAt K H us (getL acc c)
  | _, _, .nil, h => by simp at h
  | kv :: kvs, q :: acc, .cons r t, h => by
    by_cases e : q.1 = c
    · obtain ⟨h1, l, us, h2, h3, h4⟩ := r
      refine ⟨l, us, ?_, h3, ?_⟩
      · rw [valV_pos (by rw [h1, e]), h2]
      · unfold getL
        rw [List.find?_cons, decide_eq_true e]
        exact h4
    · have h2 : c ∈ acc.map (·.1) := by
        rcases List.mem_cons.mp (show c ∈ q.1 :: acc.map (·.1) from h) with z | z
        · exact absurd z.symm e
        · exact z
      obtain ⟨l, us, k1, k2, k3⟩ := DsAt.get t h2
      refine ⟨l, us, ?_, k2, ?_⟩
      · rw [valV_neg (fun z => e (key_inj (r.1.symm.trans z))), k1]
      · unfold getL
        rw [List.find?_cons, decide_eq_false e]
        exact k3
theorem DsAt.new {K : PySem.W.Frag} {H : Hp} {c : List Str} : ∀ {kvs : List (List Key × V)} {acc : Lists}, DsAt K H kvs acc → c ∉ acc.map (·.1) → valV kvs (keyOf c) = none
  | _, _, .nil, _ => rfl
  | kv :: kvs, q :: acc, .cons r t, h => by
    rw [valV_neg (fun z => h (List.mem_cons.mpr (.inl (key_inj (r.1.symm.trans z)).symm))), DsAt.new t fun z => h (List.mem_cons_of_mem _ z)]
/-- the dict at d is no other thing -/
theorem offD_at {H : Hp} {d b : Addr} {kvs : List (List Key × V)} {u : HO} (e : H d = some (.dT kvs)) (h : H b = some u) (n : ∀ k, u ≠ .dT k) : off [d] H b = some u := by
  rw [off_out (fun m => ?_)]
  · exact h
  · have e2 : b = d := by simpa using m
    rw [e2, e] at h
    exact n _ (Option.some.inj h).symm
section
variable {K : PySem.W.Frag} {H : Hp} {d : Addr} {kvs : List (List Key × V)} {v : V}
theorem TupAt.offD {xs : List V} (h : TupAt K H v xs) (e : H d = some (.dT kvs)) : TupAt K (Bx.off [d] H) v xs := by
  obtain ⟨p, rfl, h⟩ := h
  refine ⟨p, rfl, ?_⟩
  rcases h with (h | ⟨o, h⟩) | h
  · exact .inl (.inl (offD_at e h fun _ z => nomatch z))
  · exact .inl (.inr ⟨o, offD_at e h fun _ z => nomatch z⟩)
  · exact .inr h
theorem TrkAt.offD {xs : List V} (h : TrkAt H v xs) (e : H d = some (.dT kvs)) : TrkAt (Bx.off [d] H) v xs := by
  obtain ⟨p, rfl, h⟩ := h
  exact ⟨p, rfl, offD_at e h fun _ z => nomatch z⟩
theorem CsAt.offD {us : List V} {cs : List (List Str)} (h : CsAt H us cs) (e : H d = some (.dT kvs)) : CsAt (Bx.off [d] H) us cs := L2.Paired.mapP h fun _ _ z => TrkAt.offD z e
theorem LayAt.offD (e : H d = some (.dT kvs)) : ∀ {L : Lay} {v : V}, LayAt K H v L → LayAt K (Bx.off [d] H) v L
  | .one _ _, _, ⟨q, h1, h2⟩ => ⟨q, h1.offD e, TupAt.offD h2 e⟩
  | .by_ _ _ _, _, ⟨va, vb, h1, h2, h3⟩ => ⟨va, vb, h1.offD e, LayAt.offD e h2, LayAt.offD e h3⟩
theorem LaidAt.offD {q : Laid} (h : LaidAt K H v q) (e : H d = some (.dT kvs)) : LaidAt K (Bx.off [d] H) v q := by
  obtain ⟨a, dx, vp, vt, f, h1, h2, h3, h4, h5⟩ := h
  exact ⟨a, dx, vp, vt, f, h1, offD_at e h2 (fun _ z => nomatch z), h3.offD e, TupAt.offD h4 e, offD_at e h5 (fun _ z => nomatch z)⟩
theorem LsAt.offD {us : List V} {ls : List Laid} (h : LsAt K H us ls) (e : H d = some (.dT kvs)) : LsAt K (Bx.off [d] H) us ls := L2.Paired.mapP h fun _ _ z => LaidAt.offD z e
end
theorem dget_of {H : Hp} {d b : Addr} {kvs : List (List Key × V)} {c : List Str} {v : V} (e : H d = some (.dT kvs)) (eb : H b = some (.tup (c.map V.str))) (hv : valV kvs (keyOf c) = some v) : DGet H d (.ref b) (some v) := by
  have := DGet.t (k := keyOf c) e (by rw [key_v]; exact eb)
  rw [hv] at this
  exact this
section
variable {P : Program} {w : World} {K : PySem.W.Frag} {mg : Str → Option Value} {base : Heap}
def spLaidLists (K : PySem.W.Frag) : Sp := fun vs H Q _ => ∃ a dx l xs ps S p ns, vs = [.ref a, .ref p] ∧ HpAt K H a dx l xs ps ∧ SaysT S ps ∧ (SqL K H p ((ns : List Str).map V.str) ∨ H p = some (.tup (ns.map V.str))) ∧ GoodNames ps S ns ∧
  ∀ d H' kvs, Same H H' → H d = none → H' d = some (.dT kvs) → DsAt K (off [d] H') kvs (laidLists S ns) → Q (.ref d) H'
theorem sc_laid_lists : FnScope ["heap", "names", "lists", "choice", "listed", "part", "rest", "one", "other"] ["heap", "names"] (defScope s_laid_lists) := ⟨rfl, rfl, rfl, by decide +kernel, rfl, by decide +kernel, by decide +kernel⟩
theorem F_laid_lists (T : Env w K mg) : Fx P w K mg base "laid_lists" 8 ["heap", "names"] (spLaidLists K) := by
  obtain ⟨fd, F⟩ := T.d_laid_lists
  have F_choices_of := F_choices_of (P := P) (base := base) T
  have F_partings_of := F_partings_of (P := P) (base := base) T
  have F_with_two := F_with_two (P := P) (base := base) T
  have F_Laid_init := F_Laid_init (P := P) (base := base) T
  have F_Heap_parcel := F_Heap_parcel (P := P) (base := base) T
  have F_Parcel_sides := F_Parcel_sides (P := P) (base := base) T
  have F_Sides_told := F_Sides_told (P := P) (base := base) T
  refine ⟨_, fd, T.glo_laid_lists, F.kp, F.bindsN fun _ _ _ _ _ _ us hl => match us, hl with | [_, _], _ => rfl, ?_⟩
  refine F.ok sc_laid_lists (fun vs H Q E h => ?_) (fun cdv A outer s H vs Q E hr h => ?_)
  · obtain ⟨a, dx, l, xs, ps, S, p, ns, rfl, _⟩ := h
    rfl
  · obtain ⟨a, dx, l, xs, ps, S, p, ns, rfl, hh, hS, hp, hg, k⟩ := h
    refine ⟨_, PSs.nox (pss_cons (ps_set (i := 2) sc_laid_lists.nd rfl (Or.inl rfl) pe_dnewT) (pss_cons (ps_for PassesOwn.never rfl (pi_list (pe_fx F_choices_of (hr.mono (by decide)) rfl (pa_cons (pv 1) pa_nil))) (pg_name (i := 3) sc_laid_lists.nd rfl (Or.inl rfl)) (pss_cons (ps_set (i := 4) sc_laid_lists.nd rfl (Or.inl rfl) (pe_lst pa_nil)) (C8.pss_cut (ps_if (pt_cmpR op_eq (pe_callB call_len_seq (by rfl) T.free_len (by decide +kernel) (pa_cons (pv 3) pa_nil)) pe_int (nomark _)) (pss_one (ps_set (i := 4) sc_laid_lists.nd rfl (Or.inl rfl) (pe_lst (pa_cons (pe_kx F_Laid_init (hr.mono (by decide)) rfl (pa_cons (pe_tup (pa_cons pe_str (pa_cons (pe_ix ix_tup (pv 3) pe_int (fun _ _ => rfl)) (pa_cons (pe_ix ix_tup (C8.pe_gc (v := .ref (He.ga K "ORDERS")) rfl ⟨_, T.glo_ORDERS, rfl⟩) pe_int (fun _ _ => rfl)) pa_nil)))) (pa_cons (pe_mx0 T.cls_Sides F_Sides_told (hr.mono (by decide)) (pe_mx0 T.cls_Parcel F_Parcel_sides (hr.mono (by decide)) (pe_mx T.cls_Heap F_Heap_parcel (hr.mono (by decide)) (pv 0) (pa_cons (pe_ix ix_tup (pv 3) pe_int (fun _ _ => rfl)) pa_nil)))) pa_nil))) pa_nil)))) pss_nil) (pss_cons (ps_for PassesOwn.never rfl (pi_list (pe_fx F_partings_of (hr.mono (by decide)) rfl (pa_cons (pv 3) pa_nil))) (pg_tup (by rfl) (pgs_cons (pg_name (i := 5) sc_laid_lists.nd rfl (Or.inl rfl)) (pgs_cons (pg_name (i := 6) sc_laid_lists.nd rfl (Or.inl rfl)) pgs_nil))) (pss_one (ps_for PassesOwn.never rfl (pi_list (pe_dget (hu_of hr) (pv 2) (pv 5) (fun _ _ => rfl))) (pg_name (i := 7) sc_laid_lists.nd rfl (Or.inl rfl)) (pss_one (ps_for PassesOwn.never rfl (pi_list (pe_dget (hu_of hr) (pv 2) (pv 6) (fun _ _ => rfl))) (pg_name (i := 8) sc_laid_lists.nd rfl (Or.inl rfl)) (pss_one (ps_set (i := 4) sc_laid_lists.nd rfl (Or.inl rfl) (pe_fx F_with_two (hr.mono (by decide)) rfl (pa_cons (pv 4) (pa_cons (pv 7) (pa_cons (pv 8) pa_nil))))))))))) (pss_one (ps_dput (hu_of hr) (pv 2) (pv 3) (pv 4) rfl)))))) (pss_one (ps_ret (pv 2))))), ?_⟩
    intro d hd
    have s0 : Same H (upd H d (.dT [])) := same_upd hd
    refine ⟨_, rfl, p, ns, rfl, trk_mono s0 hp, hg.few, fun D H1 us0 s1 nD eD c1 => ?_⟩
    have nDd : D ≠ d := fun z => by
      rw [z] at nD
      rw [upd_same] at nD
      cases nD
    have ed1 : H1 d = some (.dT []) := s1 _ _ upd_same
    have c1' : CsAt H1 us0 (choicesOf ns) := c1.mono off_le
    refine ⟨D, rfl, ⟨_, SqL.of eD⟩, for_it (walk_list (xs := us0)) (fun i σ H' => ∃ kvs u1 u2 u3 u4 u5 u6, σ = [some (.ref a), some (.ref p), some (.ref d), u1, u2, u3, u4, u5, u6] ∧ Same H H' ∧ H' d = some (.dT kvs) ∧ DsAt K (off [d] H') kvs (upTo S ns i) ∧ H' D = some (.lst us0) ∧ CsAt (off [d] H') us0 (choicesOf ns))
      ⟨[], none, none, none, none, none, none, rfl, s0.trans s1, ed1, .nil, eD, c1'.offD ed1⟩ (fun i σ H' _ h => ?_) (fun i x σ B C hi h y => ?_) fun σ B h => ?_⟩
    · obtain ⟨_, _, _, _, _, _, _, _, _, _, _, e, _⟩ := h
      exact SqL.of e
    · obtain ⟨kvs, u1, u2, u3, u4, u5, u6, rfl, s2, ed, hds, eD2, hcs⟩ := h
      obtain ⟨rfl, ex⟩ := y
      obtain ⟨c, ec, pc, rfl, hpc⟩ := Paired.at hcs ex
      have hpc2 := off_le _ _ hpc
      obtain ⟨c0, csub⟩ := choices_mem.mp (List.mem_of_getElem? ec)
      have c1l : 1 ≤ c.length := List.length_pos_iff.mpr c0
      have c4l : c.length ≤ 4 := Nat.le_trans csub.length_le hg.few
      have cnd : c.Nodup := hg.nd.sublist csub
      have aok : ListsOk S (upTo S ns i) := upTo_ok hg.nd hg.few i
      refine ⟨Nat.zero_le _, fun l0 hl0 => ?_⟩
      have s3 : Same C (upd C l0 (.lst [])) := same_upd hl0
      refine ⟨fun σ' B2 => ∃ l2 us2, σ' = [some (.ref a), some (.ref p), some (.ref d), some (.ref pc), some (.ref l2), u3, u4, u5, u6] ∧ Same C B2 ∧ B2 l2 = some (.lst us2) ∧ LsAt K B2 us2 (laidStart S c), ?_, ?_⟩
      · refine ⟨_, rfl, pc, _, rfl, .inr (SqT.of (s3 _ _ hpc2)), ?_⟩
        rw [List.length_map]
        refine ⟨rfl, _, rfl, ite2 (fun hb => ?_) (fun hb => ?_)⟩
        · have e1 : c.length = 1 := by
            have := of_decide_eq_true hb
            injection this with this
            omega
          obtain ⟨n0, rfl⟩ := List.length_eq_one_iff.mp e1
          have s23 := s2.trans s3
          refine ⟨_, rfl, pc, _, _, .str n0, rfl, rfl, SqT.of (s3 _ _ hpc2), rfl, _, _, _, _, rfl, rfl, T.orders _, rfl, (by show 3 ≤ sizeLine; decide), fun q hq => ?_⟩
          have s4 : Same C (upd (upd C l0 (.lst [])) q (.tup [.str "one", .str n0, .ref (ordAd K 0)])) := s3.trans (same_upd hq)
          have hn0 : n0 ∈ pNames ps := hg.held n0 (csub.subset (List.mem_cons_self ..))
          refine ⟨_, rfl, a, dx, _, rfl, (s2.trans s4) _ _ hh.ins, rfl, _, rfl, pc, _, _, .str n0, rfl, rfl, SqT.of (s4 _ _ hpc2), rfl, a, dx, l, xs, ps, n0, rfl, hh.mono (s2.trans s4), hn0, fun u pr B5 e1 e2 s5 hu => ?_⟩
          obtain ⟨ua, udx, sv, m, rfl, hua, _⟩ := id hu
          refine ⟨ua, udx, _, rfl, hua, rfl, _, pr, rfl, hu, fun v2 hv2 => ?_⟩
          obtain ⟨sa, sdx, sq, rfl, hsa, _⟩ := id hv2
          refine ⟨sa, sdx, _, rfl, hsa, rfl, _, pr.t, rfl, hv2, fun v3 hv3 => ?_⟩
          have et : S n0 = pr.t := by rw [← e2]; exact (hS pr (List.mem_of_getElem? e1)).1
          refine make_laid2 (d := ⟨.one n0 0, S n0⟩) ⟨.ref (ordAd K 0), ⟨q, rfl, SqT.of (s5 _ _ upd_same)⟩, ⟨_, rfl, T.ord _ 0⟩⟩ (by rw [et]; exact hv3) fun nx B6 s6 hnx => ?_
          refine ⟨(by show 1 ≤ sizeLine; decide), fun l2 hl2 => ⟨l2, [.ref nx], rfl, s4.trans (s5.trans (s6.trans (same_upd hl2))), upd_same, ?_⟩⟩
          have e3 : laidStart S [n0] = [⟨.one n0 0, S n0⟩] := rfl
          rw [e3]
          exact .cons (hnx.mono (same_upd hl2)) .nil
        · refine ⟨l0, [], rfl, s3, upd_same, ?_⟩
          have e3 : laidStart S c = [] := by
            unfold laidStart
            rw [if_neg fun z => hb (decide_eq_true (by rw [z]; rfl))]
          rw [e3]
          exact .nil
      · rintro σ' B2 ⟨l2, us2, rfl, s4, el2, hls⟩
        refine ⟨_, rfl, .ref pc, c, rfl, ⟨pc, rfl, s4 _ _ hpc2⟩, c1l, c4l, fun D2 B3 us3 s5 n3 e3 ps3 => ⟨D2, rfl, ⟨_, SqL.of e3⟩, ?_⟩⟩
        have ps3' : PsAt K B3 us3 (partsOf c) := ps3.mono off_le
        have s45 := s4.trans s5
        have ed3 := s45 _ _ ed
        have hds3 : DsAt K B3 kvs (upTo S ns i) := (hds.mono off_le).mono s45
        refine for_it (walk_list (xs := us3)) (fun j σ H' => ∃ l2 us2 w1 w2 w3 w4, σ = [some (.ref a), some (.ref p), some (.ref d), some (.ref pc), some (.ref l2), w1, w2, w3, w4] ∧ Same B3 H' ∧ H' l2 = some (.lst us2) ∧ LsAt K H' us2 (((partsOf c).take j).foldl (laidPart (upTo S ns i)) (laidStart S c)))
          ⟨l2, us2, u3, u4, u5, u6, rfl, Same.refl _, s5 _ _ el2, by rw [List.take_zero, List.foldl_nil]; exact hls.mono s5⟩ (fun j σ H' _ h => ?_) (fun j x σ B4 B5 hj h y => ?_) fun σ B4 h => ?_
        · obtain ⟨_, _, _, _, _, _, _, s6, _⟩ := h
          exact SqL.of (s6 _ _ e3)
        · obtain ⟨l5, us5, w1, w2, w3, w4, rfl, s6, el5, hls5⟩ := h
          obtain ⟨rfl, ex5⟩ := y
          obtain ⟨pt, ept, v1, v2, ⟨q5, rfl, hq5⟩, ⟨p1, rfl, hp1⟩, ⟨p2, rfl, hp2⟩⟩ := Paired.at (ps3'.mono s6) ex5
          have ptm : pt ∈ partsOf c := List.mem_of_getElem? ept
          obtain ⟨pperm, ps1, ps2, pn1, pn2⟩ := parts_mem cnd ptm
          have plen := pperm.length_eq
          rw [List.length_append] at plen
          have l1 := List.length_pos_iff.mpr pn1
          have l2' := List.length_pos_iff.mpr pn2
          have k1 : pt.1 ∈ (upTo S ns i).map (·.1) := by
            rw [upTo_keys]
            exact choices_ahead ec pn1 (ps1.trans csub) (by omega)
          have k2 : pt.2 ∈ (upTo S ns i).map (·.1) := by
            rw [upTo_keys]
            exact choices_ahead ec pn2 (ps2.trans csub) (by omega)
          have stp : ((partsOf c).take (j + 1)).foldl (laidPart (upTo S ns i)) (laidStart S c) = laidPart (upTo S ns i) (((partsOf c).take j).foldl (laidPart (upTo S ns i)) (laidStart S c)) pt := by
            rw [List.take_add_one, ept, List.foldl_append, Option.toList_some, List.foldl_cons, List.foldl_nil]
          have small0 := foldPart_small aok cnd c4l (ps := (partsOf c).take j) (ls := laidStart S c) fun p hp => List.mem_of_mem_take hp
          have pl8 := parts_len c c4l
          have pl8' : ((partsOf c).take j).length ≤ 8 := Nat.le_trans (List.length_take_le' ..) pl8
          have mp : mostPart c.length ≤ 20736 := by
            unfold mostPart
            split <;> omega
          have sl1 : (laidStart S c).length ≤ 1 := by
            unfold laidStart
            split
            · exact Nat.le_refl _
            · exact Nat.zero_le _
          have small1 : (((partsOf c).take j).foldl (laidPart (upTo S ns i)) (laidStart S c)).length ≤ 2985985 := by
            refine Nat.le_trans small0 ?_
            have := Nat.mul_le_mul (Nat.mul_le_mul (Nat.le_refl 18) mp) pl8'
            omega
          have psm := part_small aok cnd c4l ptm
          rw [stp]
          generalize ((partsOf c).take j).foldl (laidPart (upTo S ns i)) (laidStart S c) = ls0 at hls5 small1
          have okR := (getL_ok aok pt.2).1
          obtain ⟨lp, usp, ev1, elp, hl1⟩ := DsAt.get (hds3.mono s6) k1
          obtain ⟨lr, usr, ev2, elr, hl2⟩ := DsAt.get (hds3.mono s6) k2
          have lem1 := hl1.length
          have lem2 := hl2.length
          refine ⟨q5, _, rfl, hq5, rfl, _, _, rfl, _, _, rfl, rfl, ?_⟩
          refine ⟨_, rfl, _, rfl, d, .ref lp, rfl, dget_of (s6 _ _ ed3) hp1 ev1, lp, rfl, ⟨_, SqL.of elp⟩, ?_⟩
          refine for_it (walk_list (xs := usp)) (fun m σ H' => ∃ l2 us2 w3 w4, σ = [some (.ref a), some (.ref p), some (.ref d), some (.ref pc), some (.ref l2), some (.ref p1), some (.ref p2), w3, w4] ∧ Same B5 H' ∧ H' l2 = some (.lst us2) ∧ LsAt K H' us2 (((getL (upTo S ns i) pt.1).take m).foldl (laidOne (getL (upTo S ns i) pt.2)) ls0))
            ⟨l5, us5, w3, w4, rfl, Same.refl _, el5, by rw [List.take_zero, List.foldl_nil]; exact hls5⟩ (fun m σ H' _ h => ?_) (fun m x σ B6 B7 hm h y => ?_) fun σ B6 h => ?_
          · obtain ⟨_, _, _, _, _, s7, _⟩ := h
            exact SqL.of (s7 _ _ elp)
          · obtain ⟨l6, us6, w5, w6, rfl, s7, el6, hls6⟩ := h
            obtain ⟨rfl, ex6⟩ := y
            obtain ⟨one, eone, hone⟩ := Paired.at (hl1.mono s7) ex6
            have stp2 : ((getL (upTo S ns i) pt.1).take (m + 1)).foldl (laidOne (getL (upTo S ns i) pt.2)) ls0 = laidOne (getL (upTo S ns i) pt.2) (((getL (upTo S ns i) pt.1).take m).foldl (laidOne (getL (upTo S ns i) pt.2)) ls0) one := by
              rw [List.take_add_one, eone, List.foldl_append, Option.toList_some, List.foldl_cons, List.foldl_nil]
            have small2 := foldOne_len (getL (upTo S ns i) pt.2) ((getL (upTo S ns i) pt.1).take m) ls0
            have small3 : (((getL (upTo S ns i) pt.1).take m).foldl (laidOne (getL (upTo S ns i) pt.2)) ls0).length ≤ 3400000 := by
              refine Nat.le_trans small2 ?_
              have := Nat.mul_le_mul (Nat.le_refl (18 * (getL (upTo S ns i) pt.2).length)) (List.length_take_le' m (getL (upTo S ns i) pt.1))
              rw [Nat.mul_assoc 18 _ (getL (upTo S ns i) pt.1).length] at this
              omega
            have smallR : (getL (upTo S ns i) pt.2).length ≤ 20736 := by
              have := Nat.le_mul_of_pos_right (getL (upTo S ns i) pt.2).length (show 0 < (getL (upTo S ns i) pt.1).length by
                have := List.getElem?_eq_some_iff.mp eone
                obtain ⟨z, _⟩ := this
                omega)
              omega
            rw [stp2]
            generalize ((getL (upTo S ns i) pt.1).take m).foldl (laidOne (getL (upTo S ns i) pt.2)) ls0 = lsm at hls6 small3
            refine ⟨_, rfl, _, rfl, d, .ref lr, rfl, dget_of (s7 _ _ (s6 _ _ ed3)) (s7 _ _ hp2) ev2, lr, rfl, ⟨_, SqL.of (s7 _ _ elr)⟩, ?_⟩
            have hl2' := hl2.mono s7
            refine for_it (walk_list (xs := usr)) (fun n σ H' => ∃ l2 us2 w4, σ = [some (.ref a), some (.ref p), some (.ref d), some (.ref pc), some (.ref l2), some (.ref p1), some (.ref p2), some x, w4] ∧ Same B7 H' ∧ H' l2 = some (.lst us2) ∧ LsAt K H' us2 (laidOne ((getL (upTo S ns i) pt.2).take n) lsm one))
              ⟨l6, us6, w6, rfl, Same.refl _, el6, by unfold laidOne; rw [List.take_zero, List.foldl_nil]; exact hls6⟩ (fun n σ H' _ h => ?_) (fun n x2 σ B8 B9 hn h y => ?_) fun σ B8 h => ?_
            · obtain ⟨_, _, _, _, s8, _⟩ := h
              exact SqL.of (s8 _ _ (s7 _ _ elr))
            · obtain ⟨l7, us7, w7, rfl, s8, el7, hls7⟩ := h
              obtain ⟨rfl, ex7⟩ := y
              obtain ⟨oth, eoth, hoth⟩ := Paired.at (hl2'.mono s8) ex7
              have stp3 : laidOne ((getL (upTo S ns i) pt.2).take (n + 1)) lsm one = withTwo (laidOne ((getL (upTo S ns i) pt.2).take n) lsm one) one oth := by
                unfold laidOne
                rw [List.take_add_one, eoth, List.foldl_append, Option.toList_some, List.foldl_cons, List.foldl_nil]
              have small4 := laidOne_len ((getL (upTo S ns i) pt.2).take n) lsm one
              have small5 : (laidOne ((getL (upTo S ns i) pt.2).take n) lsm one).length ≤ 5000000 := by
                refine Nat.le_trans small4 ?_
                have := List.length_take_le' n (getL (upTo S ns i) pt.2)
                omega
              have okO := okR oth (List.mem_of_getElem? eoth)
              have dep : oth.paper.depth ≤ 3 := by
                have h1 := Lay.depth_lt oth.paper
                have h2 := okO.1.length_eq
                omega
              rw [stp3]
              generalize laidOne ((getL (upTo S ns i) pt.2).take n) lsm one = lsn at hls7 small5
              refine ⟨_, rfl, _, rfl, _, rfl, l7, x, x2, us7, lsn, one, oth, rfl, el7, hls7, hone.mono s8, hoth, dep, small5, fun r us8 B10 s9 er hr8 => ?_⟩
              exact ⟨r, us8, _, rfl, s8.trans s9, er, hr8⟩
            · obtain ⟨l7, us7, w7, rfl, s8, el7, hls7⟩ := h
              refine ⟨l7, us7, _, _, rfl, s7.trans s8, el7, ?_⟩
              rw [lem2, List.take_length] at hls7
              exact hls7
          · obtain ⟨l6, us6, w5, w6, rfl, s7, el6, hls6⟩ := h
            refine ⟨l6, us6, _, _, _, _, rfl, s6.trans s7, el6, ?_⟩
            rw [lem1, List.take_length] at hls6
            exact hls6
        · obtain ⟨l5, us5, w1, w2, w3, w4, rfl, s6, el5, hls5⟩ := h
          have pl := ps3'.length
          rw [pl, List.take_length] at hls5
          have hdsB := hds3.mono s6
          have hlsD : LsAt K B4 us5 (laidOf S (upTo S ns i) c) := hls5
          have edB := s6 _ _ ed3
          have epc := (s45.trans s6) _ _ hpc2
          have s26 := s2.trans (s45.trans s6)
          have eD6 := (s45.trans s6) _ _ eD2
          have hcs6 := hcs.mono (off_mono (s45.trans s6))
          have ki : c ∉ (upTo S ns i).map (·.1) := by
            rw [upTo_keys]
            exact take_not (choices_nodup hg.nd) ec
          have nv := DsAt.new hdsB ki
          have lk : kvs.length < sizeLine := by
            rw [hdsB.length, ← List.length_map (f := (·.1)), upTo_keys]
            have z1 := List.length_take_le' i (choicesOf ns)
            have z2 := choices_len hg.few
            show _ < sizeLine
            exact Nat.lt_of_le_of_lt (Nat.le_trans z1 z2) (by decide)
          refine ⟨_, rfl, _, rfl, _, rfl, d, _, rfl, DPut.t edB (k := keyOf c) (by rw [key_v]; exact epc) lk, ?_⟩
          rw [putK_new _ nv]
          have same1 : Same (off [d] B4) (off [d] (upd B4 d (.dT (kvs ++ [(keyOf c, .ref l5)])))) := fun b u z => by
            by_cases m : b = d
            · rw [m] at z
              have : off [d] B4 d = none := off_in (List.mem_singleton.mpr rfl)
              rw [this] at z
              cases z
            · have mm : b ∉ [d] := fun y => m (List.mem_singleton.mp y)
              rw [off_out mm] at z ⊢
              rw [upd_ne m]
              exact z
          have lsn : l5 ≠ d := fun z => by
            rw [z, edB] at el5
            cases el5
          have nD : D ≠ d := fun z => by
            rw [z, edB] at eD6
            cases eD6
          refine ⟨_, _, _, _, _, _, _, rfl, ?_, upd_same, ?_, by rw [upd_ne nD]; exact eD6, hcs6.mono same1⟩
          · intro b u z
            have m : b ≠ d := fun y => by
              rw [y, hd] at z
              cases z
            rw [upd_ne m]
            exact s26 _ _ z
          · rw [upTo_succ ec]
            unfold laidStep
            refine paired_app (DsAt.mono (off_mono (s45.trans s6) |>.trans same1) hds) (.cons ⟨rfl, l5, us5, rfl, same1 _ _ (by rw [off_out fun y => lsn (List.mem_singleton.mp y)]; exact el5), (hlsD.offD edB).mono same1⟩ .nil)
    · obtain ⟨kvs, u1, u2, u3, u4, u5, u6, rfl, s2, ed, hds, eD2, hcs⟩ := h
      refine ⟨_, rfl, k d B kvs s2 hd ed ?_⟩
      rw [← upTo_all, ← hcs.length]
      exact hds
end
end Bx
set_option Elab.async false
set_option linter.all false
set_option maxRecDepth 100000
set_option maxHeartbeats 1000000
/-! BxP1: papers_of. -/
namespace Bx
open PySem PySem.Spec PyProof.Rows L2
section
variable (K : PySem.W.Frag) (H0 H : Hp)
/-- an entry of told lists: a choice, and a list of layings of its own -/
def PEnt (kv : List Key × V) (q : List Str × List Laid) : Prop := kv.1 = keyOf q.1 ∧ ∃ l us, kv.2 = .ref l ∧ H0 l = none ∧ H l = some (.lst us) ∧ Paired (fun v (x : Laid) => LayAt K H v x.paper) us q.2
abbrev PaAt (kvs : List (List Key × V)) (acc : Lists) : Prop := Paired (PEnt K H0 H) kvs acc
end
section
variable {K : PySem.W.Frag} {H0 H H' : Hp}
theorem PEnt.mono (S : Same H H') {kv : List Key × V} {q : List Str × List Laid} (h : PEnt K H0 H kv q) : PEnt K H0 H' kv q := by
  obtain ⟨h1, l, us, h2, h3, h4, h5⟩ := h
  exact ⟨h1, l, us, h2, h3, S _ _ h4, L2.Paired.mapP h5 fun _ _ z => LayAt.mono S z⟩
theorem PEnt.before {H1 : Hp} (S : Same H1 H0) {kv : List Key × V} {q : List Str × List Laid} (h : PEnt K H0 H kv q) : PEnt K H1 H kv q := by
  obtain ⟨h1, l, us, h2, h3, h4, h5⟩ := h
  refine ⟨h1, l, us, h2, ?_, h4, h5⟩
  cases e : H1 l with
  | none => rfl
  | some u =>
    rw [S _ _ e] at h3
    cases h3
theorem PaAt.mono (S : Same H H') {kvs : List (List Key × V)} {acc : Lists} (h : PaAt K H0 H kvs acc) : PaAt K H0 H' kvs acc := L2.Paired.mapP h fun _ _ z => z.mono S
theorem PaAt.before {H1 : Hp} (S : Same H1 H0) {kvs : List (List Key × V)} {acc : Lists} (h : PaAt K H0 H kvs acc) : PaAt K H1 H kvs acc := L2.Paired.mapP h fun _ _ z => z.before S
theorem PaAt.new {c : List Str} : ∀ {kvs : List (List Key × V)} {acc : Lists}, PaAt K H0 H kvs acc → c ∉ acc.map (·.1) → valV kvs (keyOf c) = none
  | _, _, .nil, _ => rfl
  | kv :: kvs, q :: acc, .cons r t, h => by
    rw [valV_neg (fun z => h (List.mem_cons.mpr (.inl (key_inj (r.1.symm.trans z)).symm))), PaAt.new t fun z => h (List.mem_cons_of_mem _ z)]
end
section
variable {P : Program} {w : World} {K : PySem.W.Frag} {mg : Str → Option Value} {base : Heap}
def spPapers (K : PySem.W.Frag) : Sp := fun vs H Q _ => ∃ d kvs acc, vs = [.ref d] ∧ H d = some (.dT kvs) ∧ DsAt K (off [d] H) kvs acc ∧ (acc.map (·.1)).Nodup ∧ acc.length ≤ 16 ∧ (∀ q ∈ acc, q.2.length ≤ sizeLine) ∧
  ∀ e H' kvs', Same H H' → H e = none → H' e = some (.dT kvs') → PaAt K H (off [e] H') kvs' acc → Q (.ref e) H'
theorem sc_papers_of : FnScope ["lists", "found", "choice", "listed", "laid"] ["lists"] (defScope s_papers_of) := ⟨rfl, rfl, rfl, by decide +kernel, rfl, by decide +kernel, by decide +kernel⟩
theorem F_papers_of (T : Env w K mg) : Fx P w K mg base "papers_of" 1 ["lists"] (spPapers K) := by
  obtain ⟨fd, F⟩ := T.d_papers_of
  refine ⟨_, fd, T.glo_papers_of, F.kp, F.bindsN fun _ _ _ _ _ _ us hl => match us, hl with | [_], _ => rfl, ?_⟩
  refine F.ok sc_papers_of (fun vs H Q E h => ?_) (fun cdv A outer s H vs Q E hr h => ?_)
  · obtain ⟨d, kvs, acc, rfl, _⟩ := h
    rfl
  · obtain ⟨d, kvs, acc, rfl, hd, hs, hnd, h16, hz, k⟩ := h
    refine ⟨_, PSs.nox (pss_cons (ps_set (i := 1) sc_papers_of.nd rfl (Or.inl rfl) pe_dnewT) (pss_cons (ps_lock (ps_for PassesOwn.never rfl (pi_itemsT (pv 0)) (pg_tup (by rfl) (pgs_cons (pg_name (i := 2) sc_papers_of.nd rfl (Or.inl rfl)) (pgs_cons (pg_name (i := 3) sc_papers_of.nd rfl (Or.inl rfl)) pgs_nil))) (pss_one (ps_dput (hu_of hr) (pv 1) (pv 2) (pe_lc (own := [("laid", 4)]) (g := gName 4) (tt := tYes) (by rfl) sc_papers_of.nd (pi_list (pv 3)) (blkOk_by (own := [("laid", 4)]) (N := ["lists", "found", "choice", "listed", "laid"]) (sc := defScope s_papers_of) (by decide +kernel)) (fun _ _ _ _ _ => (pg_name (i := 4) sc_papers_of.nd rfl (Or.inl rfl))) (fun _ _ _ _ _ => pts_nil) (fun _ _ _ _ _ => (pe_fldK K (pv 4) (by rfl)))) rfl)))) (pss_one (ps_ret (pv 1))))), ?_⟩
    intro e0 he0
    have s0 : Same H (upd H e0 (.dT [])) := same_upd he0
    have ned : e0 ≠ d := fun z => by
      rw [z, hd] at he0
      cases he0
    have gd : off [d] H e0 = none := by
      rw [off_out fun y => ned (List.mem_singleton.mp y)]
      exact he0
    refine ⟨d, .dT kvs, s0 _ _ hd, trivial, fun od => ?_⟩
    refine ⟨_, rfl, d, od, kvs, rfl, upd_same, for_it walk_itemsT (fun i σ H' => ∃ kvs' u1 u2 u3, σ = [some (.ref d), some (.ref e0), u1, u2, u3] ∧ Sm [d] H H' ∧ H' d = some (.frz od (.dT kvs)) ∧ H' e0 = some (.dT kvs') ∧ PaAt K H (off [d, e0] H') kvs' (acc.take i))
      ⟨[], none, none, none, rfl, ?_, upd_same, by rw [upd_ne ned]; exact upd_same, by rw [List.take_zero]; exact .nil⟩ (fun i σ H' _ h => ?_) (fun i x σ A B hi h y => ?_) fun σ A h => ?_⟩
    · intro b u m z
      rw [upd_ne fun y => m (List.mem_singleton.mpr y)]
      exact s0 _ _ z
    · obtain ⟨_, _, _, _, _, _, e, _⟩ := h
      exact e
    · obtain ⟨kvs', u1, u2, u3, rfl, s1, ed, ee, hp⟩ := h
      obtain ⟨T1, q, k1, u, rfl, hT, rfl, ek, eq⟩ := y
      have sA : Same A (upd A T1 (.tup [.ref q, u])) := same_upd hT
      obtain ⟨ac, eac, rfl, l, us, rfl, hl, hls⟩ := Paired.at hs ek
      have gA : Same (off [d] H) A := fun b w z => off_le _ _ (s1.off _ _ z)
      have gAe : Same (off [d] H) (off [d, e0] A) := Same_off gA fun b m => by
        rcases List.mem_cons.mp m with rfl | m
        · exact off_in (List.mem_singleton.mpr rfl)
        · rw [List.mem_singleton.mp m]; exact gd
      have eT : (upd A T1 (.tup [.ref q, .ref l])) T1 = some (.tup [.ref q, .ref l]) := upd_same
      generalize (upd A T1 (.tup [.ref q, .ref l])) = A1 at sA eT
      have lA1 := sA _ _ (gA _ _ hl)
      have lem := hls.length
      refine ⟨T1, _, rfl, SqT.of eT, rfl, _, _, rfl, _, _, rfl, rfl, ?_⟩
      refine ⟨_, rfl, l, rfl, ⟨_, SqL.of lA1⟩, fun D hD => lc_src (xs := us) walk_list (fun A2 s => SqL.of (s _ _ lA1)) hD (by rw [lem]; exact hz ac (List.mem_of_getElem? eac)) (fun j y _ => ∃ x, ac.2[j]? = some x ∧ LayAt K (off [d] H) y x.paper) (fun _ _ _ _ _ z => z) (fun j x A2 ex s2 _ Kt kt => ?_) fun A2 acc2 s2 eD la hR => ?_⟩
      · obtain ⟨x1, ex1, hx1⟩ := Paired.at hls ex
        obtain ⟨xa, xdx, xvp, xvt, xf, rfl, hxa, hxp, _, _⟩ := hx1
        exact ⟨_, rfl, xa, _, xdx, _, _, rfl, s2 _ _ (sA _ _ (gA _ _ hxa)), T.cls_Laid, T.noat_Laid_paper, rfl, kt _ _ (Same.refl _) ⟨x1, ex1, hxp⟩⟩
      · have s12 := sA.trans s2
        have ki : ac.1 ∉ (acc.take i).map (·.1) := by
          rw [List.map_take]
          refine take_not hnd ?_
          rw [List.getElem?_map, eac]
          rfl
        have nv := PaAt.new hp ki
        have lk : kvs'.length < sizeLine := by
          rw [hp.length]
          exact Nat.lt_of_le_of_lt (Nat.le_trans (List.length_take_le' _ _) h16) (by decide)
        have hDA : A D = none := by
          cases z : A D with
          | none => rfl
          | some w =>
            rw [sA _ _ z] at hD
            cases hD
        have hDH : H D = none := by
          cases z : H D with
          | none => rfl
          | some w =>
            rw [s1 D w (fun m => by rw [List.mem_singleton.mp m, ed] at hDA; cases hDA) z] at hDA
            cases hDA
        have nDe : D ≠ e0 := fun z => by
          rw [z, ee] at hDA
          cases hDA
        have nDd : d ≠ e0 := fun z => ned z.symm
        refine ⟨_, rfl, _, rfl, e0, _, rfl, DPut.t (k := keyOf ac.1) (s12 _ _ ee) (s12 _ _ eq) lk, ?_⟩
        rw [putK_new _ nv]
        have same1 : Same (off [d, e0] A) (off [d, e0] (upd A2 e0 (.dT (kvs' ++ [(keyOf ac.1, .ref D)])))) := fun b u z => by
          have mm : b ∉ [d, e0] := fun y => by rw [off_in y] at z; cases z
          rw [off_out mm] at z ⊢
          rw [upd_ne fun y => mm (List.mem_cons_of_mem _ (List.mem_singleton.mpr y))]
          exact s12 _ _ z
        refine ⟨_, _, _, _, rfl, ?_, by rw [upd_ne nDd]; exact s12 _ _ ed, upd_same, ?_⟩
        · intro b w m z
          have nb : b ≠ e0 := fun y => by
            rw [y, he0] at z
            cases z
          rw [upd_ne nb]
          exact s12 _ _ (s1 _ _ m z)
        · rw [List.take_add_one, eac]
          refine paired_app (hp.mono same1) (.cons ⟨rfl, D, acc2, rfl, hDH, ?_, ?_⟩ .nil)
          · have nDd2 : D ≠ d := fun z => by
              rw [z, ed] at hDA
              cases hDA
            rw [off_out (fun y => by rcases List.mem_cons.mp y with y | y; exact nDd2 y; exact nDe (List.mem_singleton.mp y)), upd_ne nDe]
            exact eD
          · refine paired_of (la.trans lem) fun j y x ey ex => ?_
            obtain ⟨x2, e2, h2⟩ := hR j y ey
            rw [ex] at e2
            cases e2
            exact LayAt.mono (gAe.trans same1) h2
    · obtain ⟨kvs', u1, u2, u3, rfl, s1, ed, ee, hp⟩ := h
      refine ⟨ed, _, rfl, k e0 _ kvs' ?_ he0 (by rw [upd_ne ned]; exact ee) ?_⟩
      · intro b w z
        by_cases m : b = d
        · rw [m] at z ⊢
          rw [upd_same, ← hd, z]
        · rw [upd_ne m]
          exact s1 _ _ (fun y => m (List.mem_singleton.mp y)) z
      · rw [hs.length, List.take_length] at hp
        refine hp.mono fun b w z => ?_
        have mm : b ∉ [d, e0] := fun y => by rw [off_in y] at z; cases z
        have mm2 : b ∉ [e0] := fun y => mm (List.mem_cons_of_mem _ y)
        rw [off_out mm] at z
        rw [off_out mm2, upd_ne (show b ≠ d from fun y => mm (y ▸ List.mem_cons_self ..))]
        exact z
end
end Bx
set_option Elab.async false
set_option linter.all false
set_option maxRecDepth 100000
set_option maxHeartbeats 1000000
/-! BxU: min(list, key=def). -/
namespace Bx
open PySem PySem.Spec PyProof.Rows L2 FbM
section
variable {X : Cx} {pins : List (Addr × Obj)} {σ : L2.St} {H : Hp} {k : Nat} {l gf it S : Addr} {fd : FuncData} {ps : List Str} {sp : Sp} {xs : List V} {A : Around} {R : Result → Shared → Prop} {kf : Nat → Int}
theorem min_turn (F : FnOk X.prog X.w X.K X.mg X.base CX0 k gf fd ps sp) (hr : Room k A) (hA : A.frames = some X.stack) (hb : Binds X.K fd ps []) {s : Shared} (I : Inv X pins σ H s) {x : V} {u : Value} {z : Int} (rx : RelV x u)
    (h : ∀ Q' : VK, Q' (.int z) H → sp [x] H Q' E0) :
    wpAny (model X.prog X.w) A (call (.ref gf) [u]) (fun v s' => ∃ t, v = .int z t ∧ Inv X pins σ H s' ∧ ∀ b o, Rec X pins b → H b = none → s.heap.get? b = some o → s'.heap.get? b = some o) (fun _ _ => False) s := by
  have hq := h (fun v H' => v = .int z ∧ H' = H) ⟨rfl, rfl⟩
  have hl : ([u] ++ ([] : List Value)).length = ps.length := F.len [x] _ _ _ hq
  have e0 := I.env0
  have e1 : Env0 X.prog X.w X.K X.mg X.base A X.stack s H := ⟨hA, e0.mod, e0.bs, e0.bsz, e0.funs, e0.frf, e0.hok, e0.bare⟩
  refine wpAny_call (codeAny_mono (F.run A X.stack s H ⟨[u], []⟩ [u] [x] _ E0 hr e1 (hb s [u] I.kIn hl) (.cons rx .nil) hq) fun r s' hq => ?_)
  cases r with
  | error e => exact False.elim hq
  | ok fl =>
    cases fl with
    | next => exact False.elim hq
    | brk => exact False.elim hq
    | cont => exact False.elim hq
    | ret v =>
      obtain ⟨v', H', os, bare, un, hok, rv', ev, eH⟩ := (show CE X.stack X.prog X.w H _ _ v s' from hq)
      subst ev
      obtain ⟨t, rfl⟩ := rv'
      have I2 := I.call' os un hok bare (fun b y => absurd y List.not_mem_nil)
      rw [eH] at I2
      exact ⟨t, rfl, I2, fun b o rb ub eb => un.keep _ _ eb ub rb.fr List.not_mem_nil⟩
theorem min_loop (F : FnOk X.prog X.w X.K X.mg X.base CX0 k gf fd ps sp) (hh : A.handled = none) (hr : Room k A.in1) (hA : A.frames = some X.stack) (hb : Binds X.K fd ps []) (hl : SqL X.K H l xs)
    (rS : Rec X pins S) (ri : Rec X pins it) (uS : H S = none) (ui : H it = none) (li : l ≠ it) (Si : S ≠ it)
    (hsp : ∀ (i : Nat) (x : V), xs[i]? = some x → ∀ Q' : VK, Q' (.int (kf i)) H → sp [x] H Q' E0)
    (hR : ∀ (i : Nat) (x : V) (u : Value) (s' : Shared), xs[i]? = some x → RelV x u → (∀ j, j < xs.length → kf i ≤ kf j ∧ (j < i → kf i < kf j)) → Inv X pins σ H s' → R (.ok (.ret u)) s') :
    ∀ (r j i : Nat) (s : Shared) (vb : Value) (tb : Tok) (c : Nat) (xb : V), xs.length - (j + 1) = r → j + 1 ≤ xs.length → Inv X pins σ H s → s.heap.get? S = some (seqObj "list" #[vb, .int (kf i) tb] c) → s.heap.IsListIter it l (j + 1) →
      xs[i]? = some xb → RelV xb vb → i ≤ j → (∀ j', j' ≤ j → kf i ≤ kf j' ∧ (j' < i → kf i < kf j')) → codeAny (model X.prog X.w) A (.builtin "min.loop" ⟨[.ref it, .ref gf, .ref S], []⟩) R s := by
  have hname : (toString "min" ++ toString ".loop" : String) = "min.loop" := by decide
  intro r
  induction r with
  | zero =>
    intro j i s vb tb c xb hr0 hj I hS hit hvb rvb hij hbest
    have hin : j + 1 = xs.length := by omega
    obtain ⟨its, rv, pl, _⟩ := I.list hl
    have hsz : its.toArray.size = xs.length := by rw [List.size_toArray]; exact rv.length.symm
    have W := Walks.list (prog := X.prog) (w := X.w) (A := A.in1) hh it l li its.toArray
    refine codeAny_builtin PySem.F.entry_min_loop ?_
    rw [Around.under_plainId PySem.F.plain_min_loop _]
    show wpAny _ A.in1 (seqItems? (.ref S) >>= _) _ _ _
    refine wpAny_bind (wpAny_seqItems hS rfl ?_)
    show wpAny _ A.in1 (tryCatch (pyNext (.ref it)) _ >>= _) _ _ _
    refine wpAny_bind (wpAny_tryCatch (W.done _ _ _ ⟨by rw [hsz, ← hin]; exact hit, pl.isList⟩ fun h' tk' hk' => ?_))
    have I1 : Inv X pins σ H { s with heap := h', toks := tk' } := ri.turn (t' := tk') I ui fun c o hc e => hk' c o (by simpa using hc) e
    have hS' := hk' S _ (by simpa using Si) hS
    have s1 := Heap.SameBut.update h' S (Obj.mapSeq fun _ => (#[] : Array Value))
    show wpAny _ A.in1 (updateSeq S (fun _ => #[]) >>= _) _ _ _
    refine wpAny_bind ?_
    refine wpAny_updateSeq hS' rfl (wpAny_bind (wpAny_letGo (wpAny_pure ?_)))
    exact hR i xb vb _ hvb rvb (fun j' hj' => hbest j' (by omega)) (rS.turn (t' := tk') I1 uS fun c o hc e => s1.extBut c o hc e)
  | succ r ih =>
    intro j i s vb tb c xb hr0 hj I hS hit hvb rvb hij hbest
    have hlt : j + 1 < xs.length := by omega
    obtain ⟨its, rv, pl, _⟩ := I.list hl
    have hsz : its.toArray.size = xs.length := by rw [List.size_toArray]; exact rv.length.symm
    have W := Walks.list (prog := X.prog) (w := X.w) (A := A.in1) hh it l li its.toArray
    refine codeAny_builtin PySem.F.entry_min_loop ?_
    rw [Around.under_plainId PySem.F.plain_min_loop _]
    show wpAny _ A.in1 (seqItems? (.ref S) >>= _) _ _ _
    refine wpAny_bind (wpAny_seqItems hS rfl ?_)
    show wpAny _ A.in1 (tryCatch (pyNext (.ref it)) _ >>= _) _ _ _
    refine wpAny_bind (wpAny_tryCatch (W.item (j + 1) _ _ _ (by rw [hsz]; exact hlt) ⟨hit, pl.isList⟩ fun v h' tk' hP hst' hk' => ?_))
    have hv : its[j + 1]? = some v := by simpa using hP
    obtain ⟨x, hx⟩ : ∃ x, xs[j + 1]? = some x := ⟨_, List.getElem?_eq_getElem hlt⟩
    obtain ⟨u, hu, rx⟩ := rv.get hx
    rw [hv] at hu
    cases hu
    have I1 : Inv X pins σ H { s with heap := h', toks := tk' } := ri.turn (t' := tk') I ui fun c o hc e => hk' c o (by simpa using hc) e
    have hS1 := hk' S _ (by simpa using Si) hS
    show wpAny _ A.in1 (tryCatch (holding [v] (call (.ref gf) [v])) _ >>= _) _ _ _
    refine wpAny_bind (wpAny_tryCatch (wpAny_holding (wpAny_mono (min_turn F hr hA hb I1 rx (hsp (j + 1) x hx)) (fun y s2 he => ?_) fun _ _ hF => hF.elim)))
    obtain ⟨t2, rfl, I2, keep⟩ := he
    have hS2 := keep S _ rS uS hS1
    have hit2 : s2.heap.IsListIter it l (j + 1 + 1) := by
      obtain ⟨o, ho, hc, hd⟩ := hst'.1
      exact ⟨o, keep it _ ri ui ho, hc, hd⟩
    show wpAny _ A.in1 (tryCatch (holding [v, .int (kf (j + 1)) t2] (richCompare .Lt (.int (kf (j + 1)) t2) (.int (kf i) tb) >>= _)) _ >>= _) _ _ _
    refine wpAny_bind (wpAny_tryCatch (wpAny_holding (wpAny_bind (CmpOf.ints_lt (prog := X.prog) (w := X.w) (A := A.in1) (P := fun i v => ∃ t, v = .int (kf i) t) kf (fun i v h => h) (j + 1) i _ _ _ _ _ ⟨t2, rfl⟩ ⟨tb, rfl⟩ ?_))))
    refine wpAny_bind (wpAny_holding (wpAny_truthy_bool ?_))
    refine wpAny_bind (wpAny_letGo (wpAny_pure ?_))
    by_cases hb' : kf (j + 1) < kf i
    · have s1 := Heap.SameBut.update s2.heap S (Obj.mapSeq fun _ => #[v, .int (kf (j + 1)) t2])
      obtain ⟨c2, hc2⟩ : ∃ c2, (s2.heap.update S (Obj.mapSeq fun _ => #[v, .int (kf (j + 1)) t2])).get? S = some (seqObj "list" #[v, .int (kf (j + 1)) t2] c2) := ⟨_, get?_update_seq hS2 fun _ => #[v, .int (kf (j + 1)) t2]⟩
      simp only [hb', decide_true, if_true]
      refine wpAny_bind ?_
      refine wpAny_updateSeq hS2 rfl (wpAny_bind (wpAny_letGo ?_))
      rw [hname]
      refine wpAny_pure ⟨plainId_quiet PySem.F.plain_min_loop _, ih (j + 1) (j + 1) _ v t2 c2 x (by omega) hlt (rS.turn (t' := s2.toks) I2 uS fun c o hc e => s1.extBut c o hc e) hc2 (hit2.extBut s1.extBut (Ne.symm Si)) hx rx (Nat.le_refl _) fun j' hj' => ?_⟩
      by_cases e : j' = j + 1
      · subst e
        exact ⟨Int.le_refl _, fun z => absurd z (Nat.lt_irrefl _)⟩
      · have hb1 := (hbest j' (by omega)).1
        exact ⟨by omega, fun _ => by omega⟩
    · simp only [hb', decide_false, Bool.false_eq_true, if_false]
      refine wpAny_bind (wpAny_letGo ?_)
      rw [hname]
      refine wpAny_pure ⟨plainId_quiet PySem.F.plain_min_loop _, ih (j + 1) i _ vb tb c xb (by omega) hlt I2 hS2 hit2 hvb rvb (by omega) fun j' hj' => ?_⟩
      by_cases e : j' = j + 1
      · subst e
        exact ⟨by omega, fun z => by omega⟩
      · exact hbest j' (by omega)
/-- min(l, key=f), f a def that leaves all as it is -/
def rMin (K : PySem.W.Frag) (sp : Sp) (gf : Addr) : List V → List V → Hp → VK → Prop := fun xs zs H Q => ∃ l vs, ∃ kf : Nat → Int, xs = [.ref l] ∧ zs = [.ref gf] ∧ SqL K H l vs ∧ 0 < vs.length ∧
  (∀ (i : Nat) (x : V), vs[i]? = some x → ∀ Q' : VK, Q' (.int (kf i)) H → sp [x] H Q' E0) ∧ ∀ (i : Nat) (x : V), vs[i]? = some x → (∀ j, j < vs.length → kf i ≤ kf j ∧ (j < i → kf i < kf j)) → Q x H
theorem cr_minKey (F : FnOk X.prog X.w X.K X.mg X.base CX0 k gf fd ps sp) (hc : X.calm = true) (hr : Room (k + 1) X.A) (hb : Binds X.K fd ps []) : CallRK X (.builtin "min") [Str.ofString "key"] (rMin X.K sp gf) := by
  intro pins s σ H vs zs us ws Q I r rz h
  obtain ⟨l, xs, kf, rfl, rfl, hl, hne, hsp, q⟩ := h
  obtain rfl := Vals.ref1 r
  obtain rfl := Vals.ref1 rz
  have hh := I.ok.hd hc
  have hA := I.ok.frames
  have hname : (toString "min" ++ toString ".loop" : String) = "min.loop" := by decide
  obtain ⟨its, rv, pl, _⟩ := I.list hl
  have hsz : its.toArray.size = xs.length := by rw [List.size_toArray]; exact rv.length.symm
  obtain ⟨ol, hol, _⟩ := id pl.isList
  have hll : l < s.heap.objs.size := Heap.lt_size hol
  refine kmk_tree PySem.F.kind_min PySem.F.plain_min PySem.F.entry_min (kmk_min_key _ _) ?_
  show wpAny _ X.A.in1 (Builtin.Builtins.bindParams "min" ["key", "default"] 0 ⟨[], [(Str.ofString "key", .ref gf)]⟩ >>= _) _ _ s
  refine wpAny_bind (wpAny_of_eq (show Builtin.Builtins.bindParams "min" ["key", "default"] 0 ⟨[], [(Str.ofString "key", .ref gf)]⟩ = pure [some (.ref gf), none] from rfl) ?_)
  refine wpAny_bind (wpAny_pure ?_)
  refine wpAny_bind (wpAny_pyIter_list pl.isList ?_)
  refine wpAny_bind (wpAny_newList ?_ (Nat.zero_le _))
  rw [hname]
  generalize eh1 : s.heap.push { cls := .type "list_iterator", data := .fields #[.ref l, .int 0 0] } = h1
  have g1 : h1.get? s.heap.objs.size = some { cls := .type "list_iterator", data := .fields #[.ref l, .int 0 0] } := by rw [← eh1]; exact Heap.get?_push_size _ rfl
  have k1 : ∀ b u, s.heap.get? b = some u → h1.get? b = some u := fun b u e => by rw [← eh1]; exact Heap.get?_push_of_some _ e
  have hS : h1.objs.size = s.heap.objs.size + 1 := by rw [← eh1]; exact size_push' ..
  generalize eh2 : h1.push (seqObj "list" #[] 0) = h2
  have g2 : h2.get? h1.objs.size = some (seqObj "list" #[] 0) := by rw [← eh2]; exact Heap.get?_push_size _ rfl
  have k2 : ∀ b u, h1.get? b = some u → h2.get? b = some u := fun b u e => by rw [← eh2]; exact Heap.get?_push_of_some _ e
  have li : l ≠ s.heap.objs.size := Nat.ne_of_lt hll
  have Si : h1.objs.size ≠ s.heap.objs.size := by omega
  have ri : Rec X pins s.heap.objs.size := rec_new I (Nat.le_refl _)
  have rS : Rec X pins h1.objs.size := rec_new I (by omega)
  have ui : H s.heap.objs.size = none := I.hok.fresh (Nat.le_refl _)
  have uS : H h1.objs.size = none := I.hok.fresh (by omega)
  have I0 : ∀ t, Inv X pins σ H { s with heap := h2, toks := t } := fun t => I.kept (t' := t) fun b u e => k2 b u (k1 b u e)
  refine wpAny_pure ⟨plainId_quiet PySem.F.plain_min_loop _, ?_⟩
  refine codeAny_builtin PySem.F.entry_min_loop ?_
  rw [Around.under_plainId PySem.F.plain_min_loop _]
  show wpAny _ X.A.in1 (seqItems? (.ref _) >>= _) _ _ _
  refine wpAny_bind (wpAny_seqItems g2 rfl ?_)
  show wpAny _ X.A.in1 (tryCatch (pyNext (.ref s.heap.objs.size)) _ >>= _) _ _ _
  have I0' := I0 s.toks
  obtain ⟨its', rv', pl', _⟩ := I0'.list hl
  have hsz' : its'.toArray.size = xs.length := by rw [List.size_toArray]; exact rv'.length.symm
  have W := Walks.list (prog := X.prog) (w := X.w) (A := X.A.in1) hh s.heap.objs.size l li its'.toArray
  refine wpAny_bind (wpAny_tryCatch (W.item 0 _ _ _ (by rw [hsz']; exact hne) ⟨⟨_, k2 _ _ g1, rfl, rfl⟩, pl'.isList⟩ fun v h' tk' hP hst' hk' => ?_))
  have hv : its'[0]? = some v := by simpa using hP
  obtain ⟨x, hx⟩ : ∃ x, xs[0]? = some x := ⟨_, List.getElem?_eq_getElem hne⟩
  obtain ⟨u, hu, rx⟩ := rv'.get hx
  rw [hv] at hu
  cases hu
  have I1 : Inv X pins σ H { s with heap := h', toks := tk' } := by
    have z := ri.turn (s := { s with heap := h2, toks := s.toks }) (h' := h') (t' := tk') I0' ui fun c o hc e => hk' c o (by simpa using hc) e
    exact z
  have hS1 := hk' h1.objs.size _ (by simpa using Si) g2
  show wpAny _ X.A.in1 (tryCatch (holding [v] (call (.ref gf) [v])) _ >>= _) _ _ _
  refine wpAny_bind (wpAny_tryCatch (wpAny_holding (wpAny_mono (min_turn F hr.in1 hA hb I1 rx (hsp 0 x hx)) (fun y s2 he => ?_) fun _ _ hF => hF.elim)))
  obtain ⟨t2, rfl, I2, keep⟩ := he
  have hS2 := keep _ _ rS uS hS1
  have hit2 : s2.heap.IsListIter s.heap.objs.size l (0 + 1) := by
    obtain ⟨o, ho, hc, hd⟩ := hst'.1
    exact ⟨o, keep _ _ ri ui ho, hc, hd⟩
  have s1 := Heap.SameBut.update s2.heap h1.objs.size (Obj.mapSeq fun _ => #[v, .int (kf 0) t2])
  obtain ⟨c2, hc2⟩ : ∃ c2, (s2.heap.update h1.objs.size (Obj.mapSeq fun _ => #[v, .int (kf 0) t2])).get? h1.objs.size = some (seqObj "list" #[v, .int (kf 0) t2] c2) := ⟨_, get?_update_seq hS2 fun _ => #[v, .int (kf 0) t2]⟩
  show wpAny _ _ (updateSeq h1.objs.size (fun _ => #[v, .int (kf 0) t2]) >>= _) _ _ _
  refine wpAny_bind ?_
  refine wpAny_updateSeq hS2 rfl ?_
  rw [hname]
  refine wpAny_pure ⟨plainId_quiet PySem.F.plain_min_loop _, min_loop F hh hr.in1 hA hb hl rS ri uS ui li Si hsp (fun i x u s' hx rx hk I3 => ⟨x, H, I3, rx, q i x hx hk⟩) _ 0 0 _ v t2 c2 x rfl hne (rS.turn (t' := s2.toks) I2 uS fun c o hc e => s1.extBut c o hc e) hc2 (hit2.extBut s1.extBut (Ne.symm Si)) hx rx (Nat.le_refl _) fun j' hj' => ?_⟩
  have e : j' = 0 := by omega
  subst e
  exact ⟨Int.le_refl _, fun z => absurd z (Nat.lt_irrefl _)⟩
end
end Bx
set_option Elab.async false
set_option linter.all false
set_option maxRecDepth 100000
set_option maxHeartbeats 1000000
/-! BxQ0: what the lists hold (no program in sight). -/
namespace Bx
open PySem PySem.Spec PyProof.Rows L2
def Le (a b : T3) : Prop := ∀ k, a.get k ≤ b.get k
def Dom (a b : T3) : Prop := le3 a.desc b.desc = true
theorem turn0 (t : T3) : t.turn 0 = t := rfl
theorem oInv : ∀ o : Fin 6, ∃ i, oTurn o i = 0 := by decide +kernel
theorem Le.turn {a b : T3} (h : Le a b) (o : Fin 6) : Le (a.turn o) (b.turn o) := fun k => by
  rw [get_turn, get_turn]
  exact h _
theorem Le.trans {a b c : T3} (h : Le a b) (k : Le b c) : Le a c := fun j => Int.le_trans (h j) (k j)
theorem le3_iff {a b : T3} : le3 a b = true ↔ Le a b := by
  unfold le3 Le
  simp only [Bool.and_eq_true, decide_eq_true_eq]
  constructor
  · rintro ⟨h0, h1, h2⟩ k
    match k with
    | 0 => exact h0
    | 1 => exact h1
    | 2 => exact h2
  · exact fun h => ⟨h 0, h 1, h 2⟩
theorem desc_is_turn (t : T3) : ∃ o, t.desc = t.turn o := by
  obtain ⟨x, y, z⟩ := t
  have mk : ∀ o, (∀ k, (T3.desc ⟨x, y, z⟩).get k = (T3.turn ⟨x, y, z⟩ o).get k) → ∃ o, (T3.desc ⟨x, y, z⟩) = (T3.turn ⟨x, y, z⟩ o) := fun o h => ⟨o, T3.ext' h⟩
  rcases Int.le_total x y with a | a <;> rcases Int.le_total y z with b | b <;> rcases Int.le_total x z with c | c
  · exact mk 5 fun k => by
      match k with
      | 0 => show max (max x y) z = z; omega
      | 1 => show x + y + z - max (max x y) z - min (min x y) z = y; omega
      | 2 => show min (min x y) z = x; omega
  · exact mk 5 fun k => by
      match k with
      | 0 => show max (max x y) z = z; omega
      | 1 => show x + y + z - max (max x y) z - min (min x y) z = y; omega
      | 2 => show min (min x y) z = x; omega
  · exact mk 3 fun k => by
      match k with
      | 0 => show max (max x y) z = y; omega
      | 1 => show x + y + z - max (max x y) z - min (min x y) z = z; omega
      | 2 => show min (min x y) z = x; omega
  · exact mk 2 fun k => by
      match k with
      | 0 => show max (max x y) z = y; omega
      | 1 => show x + y + z - max (max x y) z - min (min x y) z = x; omega
      | 2 => show min (min x y) z = z; omega
  · exact mk 4 fun k => by
      match k with
      | 0 => show max (max x y) z = z; omega
      | 1 => show x + y + z - max (max x y) z - min (min x y) z = x; omega
      | 2 => show min (min x y) z = y; omega
  · exact mk 1 fun k => by
      match k with
      | 0 => show max (max x y) z = x; omega
      | 1 => show x + y + z - max (max x y) z - min (min x y) z = z; omega
      | 2 => show min (min x y) z = y; omega
  · exact mk 0 fun k => by
      match k with
      | 0 => show max (max x y) z = x; omega
      | 1 => show x + y + z - max (max x y) z - min (min x y) z = y; omega
      | 2 => show min (min x y) z = z; omega
  · exact mk 0 fun k => by
      match k with
      | 0 => show max (max x y) z = x; omega
      | 1 => show x + y + z - max (max x y) z - min (min x y) z = y; omega
      | 2 => show min (min x y) z = z; omega
theorem desc_turn (t : T3) (o : Fin 6) : (t.turn o).desc = t.desc := by
  obtain ⟨x, y, z⟩ := t
  refine T3.ext' fun k => ?_
  match o, k with
  | 0, _ => rfl
  | 1, 0 => show max (max x z) y = max (max x y) z; omega
  | 1, 1 => show x + z + y - max (max x z) y - min (min x z) y = x + y + z - max (max x y) z - min (min x y) z; omega
  | 1, 2 => show min (min x z) y = min (min x y) z; omega
  | 2, 0 => show max (max y x) z = max (max x y) z; omega
  | 2, 1 => show y + x + z - max (max y x) z - min (min y x) z = x + y + z - max (max x y) z - min (min x y) z; omega
  | 2, 2 => show min (min y x) z = min (min x y) z; omega
  | 3, 0 => show max (max y z) x = max (max x y) z; omega
  | 3, 1 => show y + z + x - max (max y z) x - min (min y z) x = x + y + z - max (max x y) z - min (min x y) z; omega
  | 3, 2 => show min (min y z) x = min (min x y) z; omega
  | 4, 0 => show max (max z x) y = max (max x y) z; omega
  | 4, 1 => show z + x + y - max (max z x) y - min (min z x) y = x + y + z - max (max x y) z - min (min x y) z; omega
  | 4, 2 => show min (min z x) y = min (min x y) z; omega
  | 5, 0 => show max (max z y) x = max (max x y) z; omega
  | 5, 1 => show z + y + x - max (max z y) x - min (min z y) x = x + y + z - max (max x y) z - min (min x y) z; omega
  | 5, 2 => show min (min z y) x = min (min x y) z; omega
theorem desc_mono {a b : T3} (h : Le a b) : Le a.desc b.desc := by
  have h0 := h 0
  have h1 := h 1
  have h2 := h 2
  obtain ⟨x, y, z⟩ := a
  obtain ⟨x', y', z'⟩ := b
  replace h0 : x ≤ x' := h0
  replace h1 : y ≤ y' := h1
  replace h2 : z ≤ z' := h2
  intro k
  match k with
  | 0 => show max (max x y) z ≤ max (max x' y') z'; omega
  | 1 => show x + y + z - max (max x y) z - min (min x y) z ≤ x' + y' + z' - max (max x' y') z' - min (min x' y') z'; omega
  | 2 => show min (min x y) z ≤ min (min x' y') z'; omega
theorem dom_of {a b : T3} {o : Fin 6} (h : Le (a.turn o) b) : Dom a b := le3_iff.mpr (by
  have := desc_mono h
  rw [desc_turn] at this
  exact this)
theorem dom_le {a b : T3} (h : Dom a b) : ∃ o, Le (a.turn o) b := by
  have h := le3_iff.mp h
  obtain ⟨o1, e1⟩ := desc_is_turn a
  obtain ⟨o2, e2⟩ := desc_is_turn b
  rw [e1, e2] at h
  obtain ⟨i, hi⟩ := oInv o2
  refine ⟨oTurn o1 i, ?_⟩
  have := h.turn i
  rw [← turn_turn, ← turn_turn, hi, turn0] at this
  exact this
theorem dom_refl (a : T3) : Dom a a := le3_iff.mpr fun _ => Int.le_refl _
theorem dom_trans {a b c : T3} (h : Dom a b) (k : Dom b c) : Dom a c := le3_iff.mpr ((le3_iff.mp h).trans (le3_iff.mp k))
theorem vol_turn (t : T3) (o : Fin 6) : (t.turn o).vol = t.vol := by
  obtain ⟨x, y, z⟩ := t
  match o with
  | 0 => rfl
  | 1 => show x * z * y = x * y * z; rw [Int.mul_assoc, Int.mul_comm z y, ← Int.mul_assoc]
  | 2 => show y * x * z = x * y * z; rw [Int.mul_comm y x]
  | 3 => show y * z * x = x * y * z; rw [Int.mul_comm (y * z) x, ← Int.mul_assoc]
  | 4 => show z * x * y = x * y * z; rw [Int.mul_assoc, Int.mul_comm z (x * y)]
  | 5 => show z * y * x = x * y * z; rw [Int.mul_comm (z * y) x, Int.mul_comm z y, ← Int.mul_assoc]
theorem vol_mono {a b : T3} (p : ∀ k, 1 ≤ a.get k) (h : Le a b) : a.vol ≤ b.vol := by
  have p0 := p 0
  have p1 := p 1
  have p2 := p 2
  have h0 := h 0
  have h1 := h 1
  have h2 := h 2
  obtain ⟨x, y, z⟩ := a
  obtain ⟨x', y', z'⟩ := b
  replace p0 : 1 ≤ x := p0
  replace p1 : 1 ≤ y := p1
  replace p2 : 1 ≤ z := p2
  replace h0 : x ≤ x' := h0
  replace h1 : y ≤ y' := h1
  replace h2 : z ≤ z' := h2
  show x * y * z ≤ x' * y' * z'
  have e1 : x * y ≤ x' * y' := Int.mul_le_mul h0 h1 (by omega) (by omega)
  exact Int.mul_le_mul e1 h2 (by omega) (Int.mul_nonneg (by omega) (by omega))
theorem dom_vol {a b : T3} (p : ∀ k, 1 ≤ a.get k) (h : Dom a b) : a.vol ≤ b.vol := by
  obtain ⟨o, h⟩ := dom_le h
  rw [← vol_turn a o]
  exact vol_mono (fun k => by rw [get_turn]; exact p _) h
/-! ### what is held stays held -/
def Held (ls : List Laid) (t : T3) : Prop := ∃ h ∈ ls, Dom h.three t
theorem held_iff {ls : List Laid} {t : T3} : isHeld ls t = true ↔ Held ls t := by
  unfold isHeld Held Dom
  rw [List.any_eq_true]
theorem step_keeps {a b : Laid} {ls : List Laid} {w : Way} {t : T3} (h : Held ls t) : Held (stepTwo a b ls w) t := by
  obtain ⟨x, hx, d⟩ := h
  unfold stepTwo
  split
  · exact ⟨x, hx, d⟩
  · by_cases z : le3 w.t.desc x.three.desc = true
    · exact ⟨_, List.mem_append_right _ (List.mem_singleton.mpr rfl), dom_trans z d⟩
    · exact ⟨x, List.mem_append_left _ (List.mem_filter.mpr ⟨hx, by rw [Bool.not_eq_true] at z; rw [z]; rfl⟩), d⟩
theorem step_adds (a b : Laid) (ls : List Laid) (w : Way) : Held (stepTwo a b ls w) w.t := by
  unfold stepTwo
  split
  · rename_i e
    exact held_iff.mp e
  · exact ⟨_, List.mem_append_right _ (List.mem_singleton.mpr rfl), dom_refl _⟩
theorem foldTwo_keeps {a b : Laid} {t : T3} : ∀ {ws : List Way} {ls : List Laid}, Held ls t → Held (ws.foldl (stepTwo a b) ls) t
  | [], _, h => h
  | w :: ws, ls, h => by
    rw [List.foldl_cons]
    exact foldTwo_keeps (step_keeps h)
theorem foldTwo_adds {a b : Laid} {w : Way} : ∀ {ws : List Way} {ls : List Laid}, w ∈ ws → Held (ws.foldl (stepTwo a b) ls) w.t
  | x :: ws, ls, h => by
    rw [List.foldl_cons]
    rcases List.mem_cons.mp h with rfl | h
    · exact foldTwo_keeps (step_adds _ _ _ _)
    · exact foldTwo_adds h
theorem one_keeps {t : T3} {one : Laid} : ∀ {rest : List Laid} {ls : List Laid}, Held ls t → Held (laidOne rest ls one) t
  | [], ls, h => by
    unfold laidOne
    rw [List.foldl_nil]
    exact h
  | r :: rest, ls, h => by
    have e : laidOne (r :: rest) ls one = laidOne rest (withTwo ls one r) one := by
      unfold laidOne
      rw [List.foldl_cons]
    rw [e]
    refine one_keeps ?_
    unfold withTwo
    exact foldTwo_keeps h
theorem one_adds {one other : Laid} {w : Way} (hw : w ∈ ways one.three other.three) : ∀ {rest : List Laid} {ls : List Laid}, other ∈ rest → Held (laidOne rest ls one) w.t
  | r :: rest, ls, h => by
    have e : laidOne (r :: rest) ls one = laidOne rest (withTwo ls one r) one := by
      unfold laidOne
      rw [List.foldl_cons]
    rw [e]
    rcases List.mem_cons.mp h with rfl | h
    · refine one_keeps ?_
      unfold withTwo
      exact foldTwo_adds hw
    · exact one_adds hw h
theorem ones_keep {t : T3} {rest : List Laid} : ∀ {os : List Laid} {ls : List Laid}, Held ls t → Held (os.foldl (laidOne rest) ls) t
  | [], ls, h => h
  | o :: os, ls, h => by
    rw [List.foldl_cons]
    exact ones_keep (one_keeps h)
theorem ones_add {rest : List Laid} {one other : Laid} {w : Way} (hw : w ∈ ways one.three other.three) (ho : other ∈ rest) : ∀ {os : List Laid} {ls : List Laid}, one ∈ os → Held (os.foldl (laidOne rest) ls) w.t
  | o :: os, ls, h => by
    rw [List.foldl_cons]
    rcases List.mem_cons.mp h with rfl | h
    · exact ones_keep (one_adds hw ho)
    · exact ones_add hw ho h
theorem parts_keep {acc : Lists} {t : T3} : ∀ {ps : List (List Str × List Str)} {ls : List Laid}, Held ls t → Held (ps.foldl (laidPart acc) ls) t
  | [], ls, h => h
  | p :: ps, ls, h => by
    rw [List.foldl_cons]
    refine parts_keep ?_
    unfold laidPart
    exact ones_keep h
theorem parts_add {acc : Lists} {p : List Str × List Str} {one other : Laid} {w : Way} (h1 : one ∈ getL acc p.1) (h2 : other ∈ getL acc p.2) (hw : w ∈ ways one.three other.three) :
    ∀ {ps : List (List Str × List Str)} {ls : List Laid}, p ∈ ps → Held (ps.foldl (laidPart acc) ls) w.t
  | q :: ps, ls, h => by
    rw [List.foldl_cons]
    rcases List.mem_cons.mp h with rfl | h
    · refine parts_keep ?_
      unfold laidPart
      exact ones_add hw h2 h1
    · exact parts_add h1 h2 hw h
/-! ### none is held by another one -/
def Apart (ls : List Laid) : Prop := ls.Pairwise fun a b => ¬ Dom a.three b.three ∧ ¬ Dom b.three a.three
theorem step_apart {a b : Laid} {ls : List Laid} {w : Way} (h : Apart ls) : Apart (stepTwo a b ls w) := by
  unfold stepTwo
  split
  · exact h
  · rename_i e
    refine List.pairwise_append.mpr ⟨h.sublist List.filter_sublist, List.pairwise_singleton _ _, fun x hx y hy => ?_⟩
    rw [List.mem_singleton.mp hy]
    obtain ⟨h1, h2⟩ := List.mem_filter.mp hx
    refine ⟨fun z => e (held_iff.mpr ⟨x, h1, z⟩), fun z => ?_⟩
    have z2 : le3 w.t.desc x.three.desc = true := z
    rw [z2] at h2
    cases h2
theorem foldTwo_apart {a b : Laid} : ∀ {ws : List Way} {ls : List Laid}, Apart ls → Apart (ws.foldl (stepTwo a b) ls)
  | [], _, h => h
  | w :: ws, ls, h => by
    rw [List.foldl_cons]
    exact foldTwo_apart (step_apart h)
theorem one_apart {one : Laid} : ∀ {rest ls : List Laid}, Apart ls → Apart (laidOne rest ls one)
  | [], ls, h => by
    unfold laidOne
    rw [List.foldl_nil]
    exact h
  | r :: rest, ls, h => by
    have e : laidOne (r :: rest) ls one = laidOne rest (withTwo ls one r) one := by
      unfold laidOne
      rw [List.foldl_cons]
    rw [e]
    refine one_apart ?_
    unfold withTwo
    exact foldTwo_apart h
theorem ones_apart {rest : List Laid} : ∀ {os ls : List Laid}, Apart ls → Apart (os.foldl (laidOne rest) ls)
  | [], ls, h => h
  | o :: os, ls, h => by
    rw [List.foldl_cons]
    exact ones_apart (one_apart h)
theorem parts_apart {acc : Lists} : ∀ {ps : List (List Str × List Str)} {ls : List Laid}, Apart ls → Apart (ps.foldl (laidPart acc) ls)
  | [], ls, h => h
  | p :: ps, ls, h => by
    rw [List.foldl_cons]
    refine parts_apart ?_
    unfold laidPart
    exact ones_apart h
theorem start_apart (S : Str → T3) (c : List Str) : Apart (laidStart S c) := by
  unfold laidStart
  split
  · exact List.pairwise_singleton _ _
  · exact List.Pairwise.nil
end Bx
set_option Elab.async false
set_option linter.all false
set_option maxRecDepth 100000
set_option maxHeartbeats 1000000
/-! BxQ1: every laying of a choice is held by its list. -/
namespace Bx
open PySem PySem.Spec PyProof.Rows L2
theorem take_not' {α : Type} {l : List α} {c : α} {i : Nat} (nd : l.Nodup) (e : l[i]? = some c) : c ∉ l.take i := by
  intro z
  rw [← List.take_append_drop i l] at nd
  refine (List.nodup_append.mp nd).2.2 c z c (List.mem_of_getElem? (i := 0) ?_) rfl
  rw [List.getElem?_drop]
  exact e
theorem oInv_left : ∀ o i : Fin 6, oTurn o i = 0 → oTurn i o = 0 := by decide +kernel
theorem getL_app {c : List Str} : ∀ {acc more : Lists}, c ∈ acc.map (·.1) → getL (acc ++ more) c = getL acc c
  | q :: acc, more, h => by
    unfold getL
    rw [List.cons_append, List.find?_cons, List.find?_cons]
    by_cases e : q.1 = c
    · rw [decide_eq_true e]
    · rw [decide_eq_false e]
      have h2 : c ∈ acc.map (·.1) := by
        rcases List.mem_cons.mp (show c ∈ q.1 :: acc.map (·.1) from h) with z | z
        · exact absurd z.symm e
        · exact z
      exact getL_app h2
theorem getL_last {c : List Str} {ls : List Laid} : ∀ {acc : Lists}, c ∉ acc.map (·.1) → getL (acc ++ [(c, ls)]) c = ls
  | [], _ => by
    unfold getL
    rw [List.nil_append, List.find?_cons, decide_eq_true rfl]
    rfl
  | q :: acc, h => by
    unfold getL
    rw [List.cons_append, List.find?_cons, decide_eq_false fun e => h (List.mem_cons.mpr (.inl e.symm))]
    exact getL_last fun z => h (List.mem_cons_of_mem _ z)
theorem upTo_pre (S : Str → T3) (ns : List Str) (i : Nat) : ∀ d, ∃ more, upTo S ns (i + d) = upTo S ns i ++ more
  | 0 => ⟨[], by rw [List.append_nil]; rfl⟩
  | d + 1 => by
    obtain ⟨more, e⟩ := upTo_pre S ns i d
    cases z : (choicesOf ns)[i + d]? with
    | none =>
      refine ⟨more, ?_⟩
      rw [← e]
      show upTo S ns (i + d + 1) = _
      unfold upTo
      rw [List.take_add_one, z, Option.toList_none, List.append_nil]
    | some c =>
      refine ⟨more ++ [(c, laidOf S (upTo S ns (i + d)) c)], ?_⟩
      rw [← List.append_assoc, ← e]
      exact upTo_succ z
theorem full_pre (S : Str → T3) (ns : List Str) {i : Nat} (h : i ≤ (choicesOf ns).length) : ∃ more, laidLists S ns = upTo S ns i ++ more := by
  obtain ⟨more, e⟩ := upTo_pre S ns i ((choicesOf ns).length - i)
  rw [Nat.add_sub_of_le h, upTo_all] at e
  exact ⟨more, e⟩
theorem full_keys (S : Str → T3) (ns : List Str) : (laidLists S ns).map (·.1) = choicesOf ns := by
  rw [← upTo_all, upTo_keys, List.take_length]
theorem getL_full {S : Str → T3} {ns c : List Str} {i : Nat} (h : i ≤ (choicesOf ns).length) (hc : c ∈ (choicesOf ns).take i) : getL (laidLists S ns) c = getL (upTo S ns i) c := by
  obtain ⟨more, e⟩ := full_pre S ns h
  rw [e]
  exact getL_app (by rw [upTo_keys]; exact hc)
theorem fold_congr {f g : List Laid → List Str × List Str → List Laid} : ∀ {ps : List (List Str × List Str)} {ls : List Laid}, (∀ p ∈ ps, ∀ ls, f ls p = g ls p) → ps.foldl f ls = ps.foldl g ls
  | [], _, _ => rfl
  | p :: ps, ls, h => by
    rw [List.foldl_cons, List.foldl_cons, h p (List.mem_cons_self ..)]
    exact fold_congr fun q hq => h q (List.mem_cons_of_mem _ hq)
theorem part_nil {α : Type} (l : List α) : l.take 0 = [] := List.take_zero
/-- a choice's list comes of the lists of its parts -/
theorem full_eq {S : Str → T3} {ns c : List Str} (nd : ns.Nodup) (c0 : c ≠ []) (cs : c.Sublist ns) : getL (laidLists S ns) c = laidOf S (laidLists S ns) c := by
  obtain ⟨i, hi, ei⟩ := List.mem_iff_getElem.mp (choices_mem.mpr ⟨c0, cs⟩)
  have e : (choicesOf ns)[i]? = some c := by rw [List.getElem?_eq_getElem hi, ei]
  have h1 : getL (laidLists S ns) c = laidOf S (upTo S ns i) c := by
    rw [getL_full (i := i + 1) hi (by rw [List.take_add_one, e]; exact List.mem_append_right _ (List.mem_singleton.mpr rfl)), upTo_succ e]
    unfold laidStep
    exact getL_last (by rw [upTo_keys]; exact take_not' (choices_nodup nd) e)
  rw [h1]
  unfold laidOf
  refine fold_congr fun p hp ls => ?_
  obtain ⟨a1, a2, a3, a4, a5⟩ := parts_mem (nd.sublist cs) hp
  have pl := a1.length_eq
  rw [List.length_append] at pl
  have l1 := List.length_pos_iff.mpr a4
  have l2 := List.length_pos_iff.mpr a5
  unfold laidPart
  rw [getL_full (Nat.le_of_lt hi) (choices_ahead e a4 (a2.trans cs) (by omega)), getL_full (Nat.le_of_lt hi) (choices_ahead e a5 (a3.trans cs) (by omega))]
/-! ### partings -/
theorem parts_all {c m : List Str} (nd : c.Nodup) {x : Str} {r : List Str} (ec : c = x :: r) (hx : x ∈ m) (h2 : (c.filter fun n => decide (n ∉ m)) ≠ []) :
    (c.filter (fun n => decide (n ∈ m)), c.filter fun n => decide (n ∉ m)) ∈ partsOf c := by
  subst ec
  have e1 : (x :: r).filter (fun n => decide (n ∈ m)) = x :: r.filter (fun n => decide (n ∈ m)) := by
    rw [List.filter_cons, if_pos (decide_eq_true hx)]
  have e2 : (x :: r).filter (fun n => decide (n ∉ m)) = r.filter (fun n => decide (n ∉ m)) := by
    rw [List.filter_cons, if_neg (by simpa using hx)]
  have sl : (r.filter fun n => decide (n ∈ m)).Sublist r := List.filter_sublist
  have len : (r.filter fun n => decide (n ∈ m)).length < r.length := by
    refine Nat.lt_of_le_of_ne sl.length_le fun z => h2 ?_
    rw [e2, List.filter_eq_nil_iff]
    intro a ha
    have := sl.eq_of_length z
    rw [← this] at ha
    have := (List.mem_filter.mp ha).2
    simpa using this
  unfold partsOf
  refine List.mem_flatMap.mpr ⟨(r.filter fun n => decide (n ∈ m)).length, List.mem_range.mpr len, List.mem_map.mpr ⟨_, chosen_all sl, ?_⟩⟩
  unfold parted
  rw [e1]
  refine Prod.ext rfl ?_
  show (x :: r).filter (fun n => decide (n ∉ [x] ++ r.filter fun n => decide (n ∈ m))) = (x :: r).filter fun n => decide (n ∉ m)
  refine List.filter_congr fun a ha => ?_
  have : (a ∈ [x] ++ r.filter fun n => decide (n ∈ m)) ↔ a ∈ m := by
    rw [List.mem_append, List.mem_singleton, List.mem_filter]
    simp only [decide_eq_true_eq]
    constructor
    · rintro (h | h)
      · rw [h]
        exact hx
      · exact h.2
    · intro h
      rcases List.mem_cons.mp ha with z | z
      · exact .inl z
      · exact .inr ⟨z, h⟩
  simp only [this]
theorem beside_comm (a b : T3) (k : Fin 3) : beside a b k = beside b a k := T3.ext' fun j => by
  rw [get_beside, get_beside]
  split
  · exact Int.add_comm _ _
  · exact Int.max_comm _ _
theorem beside_mono {a b c d : T3} (k : Fin 3) (h : Le a c) (g : Le b d) : Le (beside a b k) (beside c d k) := fun j => by
  rw [get_beside, get_beside]
  have h1 := h j
  have h2 := h k
  have g1 := g j
  have g2 := g k
  split <;> omega
theorem way_dom {a b A B : T3} {k : Fin 3} (h : Dom a A) (g : Dom b B) : ∃ w ∈ ways a b, Dom w.t (beside A B k) := by
  obtain ⟨o1, h⟩ := dom_le h
  obtain ⟨o2, g⟩ := dom_le g
  obtain ⟨i, hi⟩ := oInv o1
  have inv2 : oTurn i o1 = 0 := oInv_left o1 i hi
  have e2 : (b.turn (oTurn o2 i)).turn o1 = b.turn o2 := by
    rw [turn_turn b o2 i, ← turn_turn (b.turn o2) i o1, inv2, turn0]
  refine ⟨⟨oTurn o2 i, oAt o1 k, beside a (b.turn (oTurn o2 i)) (oAt o1 k)⟩, ?_, dom_of (o := o1) ?_⟩
  · unfold ways waysBy
    exact List.mem_flatMap.mpr ⟨oTurn o2 i, List.mem_finRange _, List.mem_map.mpr ⟨oAt o1 k, List.mem_finRange _, rfl⟩⟩
  · show Le ((beside a (b.turn (oTurn o2 i)) (oAt o1 k)).turn o1) _
    rw [← beside_turn, oAt_idx, e2]
    exact beside_mono k h g
theorem Lay.names_ne : ∀ L : Lay, L.names ≠ []
  | .one n _, h => nomatch h
  | .by_ _ a b, h => Lay.names_ne a (List.append_eq_nil_iff.mp h).1
/-- what is laid of two choices beside each other is held by the list of the whole -/
theorem pair_held {S : Str → T3} {ns c : List Str} (nd : ns.Nodup) (c0 : c ≠ []) (cs : c.Sublist ns) {p : List Str × List Str} (hp : p ∈ partsOf c) {one other : Laid} (h1 : one ∈ getL (laidLists S ns) p.1) (h2 : other ∈ getL (laidLists S ns) p.2)
    {w : Way} (hw : w ∈ ways one.three other.three) : Held (getL (laidLists S ns) c) w.t := by
  rw [full_eq nd c0 cs]
  unfold laidOf
  exact parts_add h1 h2 hw hp
theorem filter_perm {c a b : List Str} (nd : c.Nodup) (h : (a ++ b).Perm c) : (c.filter fun n => decide (n ∈ a)).Perm a ∧ (c.filter fun n => decide (n ∉ a)).Perm b := by
  have nd2 : (a ++ b).Nodup := h.nodup_iff.mpr nd
  obtain ⟨na, nb, nab⟩ := List.nodup_append.mp nd2
  refine ⟨(List.perm_ext_iff_of_nodup (nd.filter _) na).mpr fun x => ?_, (List.perm_ext_iff_of_nodup (nd.filter _) nb).mpr fun x => ?_⟩
  · rw [List.mem_filter, decide_eq_true_iff]
    exact ⟨fun z => z.2, fun z => ⟨h.subset (List.mem_append_left _ z), z⟩⟩
  · rw [List.mem_filter, decide_eq_true_iff]
    refine ⟨fun z => ?_, fun z => ⟨h.subset (List.mem_append_right _ z), fun y => nab x y x z rfl⟩⟩
    rcases List.mem_append.mp (h.symm.subset z.1) with y | y
    · exact absurd y z.2
    · exact y
theorem all_held {S : Str → T3} {ns : List Str} (nd : ns.Nodup) : ∀ (L : Lay) (c : List Str), c.Sublist ns → L.names.Perm c → Held (getL (laidLists S ns) c) (L.span S)
  | .one m o, c, cs, hp => by
    have e : c = [m] := List.perm_singleton.mp hp.symm
    subst e
    rw [full_eq nd (by simp) cs]
    refine ⟨⟨.one m 0, S m⟩, ?_, dom_of (o := o) fun _ => Int.le_refl _⟩
    exact List.mem_singleton.mpr rfl
  | .by_ k A B, c, cs, hp => by
    have c0 : c ≠ [] := fun z => by
      rw [z] at hp
      exact Lay.names_ne (.by_ k A B) (List.perm_nil.mp hp)
    have cnd : c.Nodup := nd.sublist cs
    obtain ⟨x, r, ec⟩ := List.exists_cons_of_ne_nil c0
    have hx : x ∈ A.names ++ B.names := hp.symm.subset (by rw [ec]; exact List.mem_cons_self ..)
    have fin : ∀ (A B : Lay), (∀ c, c.Sublist ns → A.names.Perm c → Held (getL (laidLists S ns) c) (A.span S)) → (∀ c, c.Sublist ns → B.names.Perm c → Held (getL (laidLists S ns) c) (B.span S)) → (A.names ++ B.names).Perm c → x ∈ A.names →
        Held (getL (laidLists S ns) c) (beside (A.span S) (B.span S) k) := by
      intro A B iA iB hp hx
      obtain ⟨f1, f2⟩ := filter_perm cnd hp
      obtain ⟨one, ho, d1⟩ := iA _ (List.filter_sublist.trans cs) f1.symm
      obtain ⟨other, hr, d2⟩ := iB _ (List.filter_sublist.trans cs) f2.symm
      obtain ⟨w, hw, dw⟩ := way_dom (k := k) d1 d2
      obtain ⟨h, hh, dh⟩ := pair_held nd c0 cs (parts_all cnd ec hx fun z => Lay.names_ne B (List.perm_nil.mp (by rw [z] at f2; exact f2.symm))) ho hr hw
      exact ⟨h, hh, dom_trans dh dw⟩
    show Held _ (beside (A.span S) (B.span S) k)
    rcases List.mem_append.mp hx with z | z
    · exact fin A B (all_held nd A) (all_held nd B) hp z
    · rw [beside_comm]
      exact fin B A (all_held nd B) (all_held nd A) (List.perm_append_comm.trans hp) z
theorem full_apart {S : Str → T3} {ns c : List Str} (nd : ns.Nodup) (c0 : c ≠ []) (cs : c.Sublist ns) : Apart (getL (laidLists S ns) c) := by
  rw [full_eq nd c0 cs]
  unfold laidOf
  exact parts_apart (start_apart S c)
/-- some laying of some names -/
def anyLay : List Str → Str → Lay
  | [], n => .one n 0
  | m :: r, n => .by_ 0 (anyLay r m) (.one n 0)
theorem anyLay_names : ∀ (r : List Str) (n : Str), (anyLay r n).names.Perm (n :: r)
  | [], n => .refl _
  | m :: r, n => by
    show ((anyLay r m).names ++ [n]).Perm (n :: m :: r)
    exact (List.perm_append_comm.trans (List.Perm.cons n (anyLay_names r m)))
theorem full_ne {S : Str → T3} {ns c : List Str} (nd : ns.Nodup) (c0 : c ≠ []) (cs : c.Sublist ns) : getL (laidLists S ns) c ≠ [] := by
  obtain ⟨x, r, rfl⟩ := List.exists_cons_of_ne_nil c0
  obtain ⟨h, hh, _⟩ := all_held (S := S) nd (anyLay r x) _ cs (anyLay_names r x)
  exact List.ne_nil_of_mem hh
end Bx
set_option Elab.async false
set_option linter.all false
set_option maxRecDepth 100000
set_option maxHeartbeats 1000000
/-! BxV: least_bundle. -/
namespace Bx
open PySem PySem.Spec PyProof.Rows L2
/-! ### the sides of what lies beside each other stay small -/
theorem get_le_desc (t : T3) (k : Fin 3) : t.get k ≤ t.desc.x := by
  match k with
  | 0 => exact Int.le_trans (Int.le_max_left _ _) (Int.le_max_left _ _)
  | 1 => exact Int.le_trans (Int.le_max_right _ _) (Int.le_max_left _ _)
  | 2 => exact Int.le_max_right _ _
def sumX (S : Str → T3) (ns : List Str) : Int := (ns.map fun n => (S n).desc.x).sum
theorem sumX_app (S : Str → T3) (a b : List Str) : sumX S (a ++ b) = sumX S a + sumX S b := by
  unfold sumX
  rw [List.map_append, List.sum_append]
theorem span_low {S : Str → T3} : ∀ {L : Lay}, (∀ n ∈ L.names, okT (S n)) → ∀ k, 1 ≤ (L.span S).get k
  | .one n o, h, k => by
    show 1 ≤ ((S n).turn o).get k
    rw [get_turn]
    exact ((h n (List.mem_singleton.mpr rfl)).get _).1
  | .by_ k0 a b, h, k => by
    have h1 := span_low (L := a) (fun n hn => h n (List.mem_append_left _ hn)) k
    have h2 := span_low (L := b) (fun n hn => h n (List.mem_append_right _ hn)) k
    show 1 ≤ (beside (a.span S) (b.span S) k0).get k
    rw [get_beside]
    split
    · rename_i e
      subst e
      omega
    · omega
theorem span_top {S : Str → T3} : ∀ {L : Lay}, (∀ n ∈ L.names, okT (S n)) → ∀ k, (L.span S).get k ≤ sumX S L.names
  | .one n o, h, k => by
    show ((S n).turn o).get k ≤ ((S n).desc.x + 0 : Int)
    rw [get_turn, Int.add_zero]
    exact get_le_desc _ _
  | .by_ k0 a b, h, k => by
    have l1 := span_low (L := a) (fun n hn => h n (List.mem_append_left _ hn)) k
    have l2 := span_low (L := b) (fun n hn => h n (List.mem_append_right _ hn)) k
    have h1 := span_top (L := a) (fun n hn => h n (List.mem_append_left _ hn)) k
    have h2 := span_top (L := b) (fun n hn => h n (List.mem_append_right _ hn)) k
    show (beside (a.span S) (b.span S) k0).get k ≤ sumX S (a.names ++ b.names)
    rw [get_beside, sumX_app]
    split
    · rename_i e
      subst e
      omega
    · omega
theorem sumX_perm {S : Str → T3} {a b : List Str} (h : a.Perm b) : sumX S a = sumX S b := by
  unfold sumX
  induction h with
  | nil => rfl
  | cons x _ ih =>
    simp only [List.map_cons, List.sum_cons]
    rw [ih]
  | swap x y l =>
    simp only [List.map_cons, List.sum_cons]
    omega
  | trans _ _ a b => rw [a, b]
theorem okT_of {t : T3} (h : ∀ k, okN (t.get k)) : okT t := ⟨h 0, h 1, h 2⟩
theorem span_fits {S : Str → T3} {L : Lay} {ns : List Str} (hp : L.names.Perm ns) (h : ∀ n ∈ ns, okT (S n)) (hf : sumX S ns ≤ 100000) : okT (L.span S) := by
  have h' : ∀ n ∈ L.names, okT (S n) := fun n hn => h n (hp.subset hn)
  exact okT_of fun k => ⟨span_low h' k, Int.le_trans (span_top h' k) (by rw [sumX_perm hp]; exact hf)⟩
/-! ### the first of the least -/
/-- the first of the least of a list -/
def IsFirst (ls : List Laid) (i : Nat) (q : Laid) : Prop := ls[i]? = some q ∧ ∀ (j : Nat) (r : Laid), ls[j]? = some r → q.three.vol ≤ r.three.vol ∧ (j < i → q.three.vol < r.three.vol)
theorem IsFirst.same {ls : List Laid} {i j : Nat} {q r : Laid} (h : IsFirst ls i q) (k : IsFirst ls j r) : q = r := by
  have a := h.2 j r k.1
  have b := k.2 i q h.1
  have e : i = j := by
    rcases Nat.lt_trichotomy i j with z | z | z
    · have := b.2 z
      omega
    · exact z
    · have := a.2 z
      omega
  subst e
  have := h.1.symm.trans k.1
  exact Option.some.inj this
section
variable {P : Program} {w : World} {K : PySem.W.Frag} {mg : Str → Option Value} {base : Heap}
def spLeast (K : PySem.W.Frag) : Sp := fun vs H Q _ => ∃ a dx l xs ps S p ns, vs = [.ref a, .ref p] ∧ HpAt K H a dx l xs ps ∧ SaysT S ps ∧ (SqL K H p ((ns : List Str).map V.str) ∨ H p = some (.tup (ns.map V.str))) ∧ GoodNames ps S ns ∧
  ∀ t H' vp d kvs i q, Same H H' → H d = none → H' t = some (.tup [.int q.three.vol, vp, .ref d]) → LayAt K H' vp q.paper → H' d = some (.dT kvs) → PaAt K H (off [d] H') kvs (laidLists S ns) → IsFirst (getL (laidLists S ns) ns) i q → Q (.ref t) H'
theorem sc_least_bundle : FnScope ["heap", "names", "lists", "least"] ["heap", "names"] (defScope s_least_bundle) := ⟨rfl, rfl, rfl, by decide +kernel, rfl, by decide +kernel, by decide +kernel⟩
theorem F_least_bundle (T : Env w K mg) : Fx P w K mg base "least_bundle" 9 ["heap", "names"] (spLeast K) := by
  obtain ⟨fd, F⟩ := T.d_least_bundle
  have F_need_names := F_need_names (P := P) (base := base) T
  have F_laid_lists := F_laid_lists (P := P) (base := base) T
  have F_volume_of := F_volume_of (P := P) (base := base) T
  have F_papers_of := F_papers_of (P := P) (base := base) T
  obtain ⟨gf, gfd, m1, m2, m3, m4⟩ := id F_volume_of
  refine ⟨_, fd, T.glo_least_bundle, F.kp, F.bindsN fun _ _ _ _ _ _ us hl => match us, hl with | [_, _], _ => rfl, ?_⟩
  refine F.ok sc_least_bundle (fun vs H Q E h => ?_) (fun cdv A outer s H vs Q E hr h => ?_)
  · obtain ⟨a, dx, l, xs, ps, S, p, ns, rfl, _⟩ := h
    rfl
  · obtain ⟨a, dx, l, xs, ps, S, p, ns, rfl, hh, hS, hp, hg, k⟩ := h
    refine ⟨_, PSs.nox (pss_cons (ps_expr (pe_fx F_need_names (hr.mono (by decide)) rfl (pa_cons (pv 0) (pa_cons (pv 1) pa_nil)))) (pss_cons (ps_set (i := 2) sc_least_bundle.nd rfl (Or.inl rfl) (pe_fx F_laid_lists (hr.mono (by decide)) rfl (pa_cons (pv 0) (pa_cons (pv 1) pa_nil)))) (pss_cons (ps_set (i := 3) sc_least_bundle.nd rfl (Or.inl rfl) (pe_callBK (cr_minKey m4 rfl (hr.mono (by decide)) m3) (by rfl) T.free_min (by decide +kernel) (pa_cons (pe_dget (hu_of hr) (pv 2) (pe_callTy call_tupS (by rfl) T.free_tuple (by decide +kernel) (pa_cons (pv 1) pa_nil)) (fun _ _ => rfl)) pa_nil) (pk_cons (pe_glob (v := .ref gf) (by rfl) m1 rfl) pk_nil))) (pss_one (ps_ret (pe_tup (pa_cons (pe_fx F_volume_of (hr.mono (by decide)) rfl (pa_cons (pv 3) pa_nil)) (pa_cons (pe_fld (pv 3) (by rfl)) (pa_cons (pe_fx F_papers_of (hr.mono (by decide)) rfl (pa_cons (pv 2) pa_nil)) pa_nil))))))))), ?_⟩
    have hpT : SqL K H p (ns.map V.str) ∨ SqT K H p (ns.map V.str) := hp.imp id SqT.of
    refine ⟨_, rfl, _, rfl, a, dx, l, xs, ps, S, p, ns, rfl, hh, hS, hpT, hg, fun H1 s1 => ?_⟩
    have hp1 : SqL K H1 p (ns.map V.str) ∨ H1 p = some (.tup (ns.map V.str)) := trk_mono s1 hp
    refine ⟨_, rfl, _, rfl, a, dx, l, xs, ps, S, p, ns, rfl, hh.mono s1, hS, hp1, hg, fun d H2 kvs s2 nd ed hds => ?_⟩
    have hp2 : SqL K H2 p (ns.map V.str) ∨ H2 p = some (.tup (ns.map V.str)) := trk_mono s2 hp1
    have n0 : ns ≠ [] := List.length_pos_iff.mp hg.some
    have kin : ns ∈ (laidLists S ns).map (·.1) := by
      rw [full_keys]
      exact choices_mem.mpr ⟨n0, List.Sublist.refl _⟩
    have okall : ∀ n ∈ ns, okT (S n) := fun n hn => by
      obtain ⟨pr, hpr, e⟩ := List.mem_map.mp (hg.held n hn)
      have := hS pr hpr
      rw [← e, this.1]
      exact this.2.2.1
    have ok := upTo_ok (S := S) hg.nd hg.few (choicesOf ns).length
    rw [upTo_all] at ok
    have okL := (getL_ok ok ns).1
    refine ⟨_, rfl, _, rfl, p, _, rfl, hp2, fun u H3 s3 ⟨b, eu, eb⟩ => ?_⟩
    subst eu
    have hds3 := hds.mono (off_le.trans s3)
    obtain ⟨lq, us, ev, elq, hls⟩ := DsAt.get hds3 kin
    have lem := hls.length
    have gne := full_ne (S := S) hg.nd n0 (List.Sublist.refl _)
    refine ⟨d, .ref lq, rfl, dget_of (s3 _ _ ed) eb ev, lq, us, (fun i => (((getL (laidLists S ns) ns)[i]?).map fun q => q.three.vol).getD 0), rfl, rfl, SqL.of elq, by rw [lem]; exact List.length_pos_iff.mpr gne, fun i x ex Q' hQ' => ?_, fun i x ex hk => ?_⟩
    · obtain ⟨q, eq, hq⟩ := Paired.at hls ex
      have okq := okL q (List.mem_of_getElem? eq)
      refine ⟨x, q, rfl, hq, by rw [okq.2]; exact span_fits okq.1 okall hg.fit, ?_⟩
      dsimp only at hQ'
      rw [eq] at hQ'
      exact hQ'
    · obtain ⟨q, eq, hq⟩ := Paired.at hls ex
      have okq := okL q (List.mem_of_getElem? eq)
      have hok : okT q.three := by rw [okq.2]; exact span_fits okq.1 okall hg.fit
      have fst : IsFirst (getL (laidLists S ns) ns) i q := ⟨eq, fun j r er => by
        have hj : j < us.length := by
          rw [lem]
          exact (List.getElem?_eq_some_iff.mp er).1
        have := hk j hj
        dsimp only at this
        rw [eq, er] at this
        exact this⟩
      obtain ⟨qa, qdx, qvp, qvt, qf, rfl, hqa, hqp, _, _⟩ := id hq
      refine ⟨_, rfl, _, q, rfl, hq, hok, ?_⟩
      refine ⟨_, rfl, qa, _, qdx, _, _, rfl, hqa, T.cls_Laid, T.noat_Laid_paper, rfl, ?_⟩
      refine ⟨_, rfl, d, kvs, laidLists S ns, rfl, s3 _ _ ed, hds.mono (off_mono s3), by rw [full_keys]; exact choices_nodup hg.nd, ?_, ?_, fun e H4 kvs' s4 ne ee hpa => ?_⟩
      · rw [← List.length_map (f := (·.1)), full_keys]
        exact choices_len hg.few
      · intro q hq
        refine Nat.le_trans (ok q hq).2 ?_
        unfold mostOf
        split <;> decide
      · refine ⟨(by show 3 ≤ sizeLine; decide), fun t ht => ?_⟩
        have s123 : Same H H3 := s1.trans (s2.trans s3)
        have st : Same H4 (upd H4 t (.tup [V.int q.three.vol, qvp, V.ref e])) := same_upd ht
        have he : H e = none := by
          cases z : H e with
          | none => rfl
          | some u =>
            rw [s123 _ _ z] at ne
            cases ne
        exact k t _ qvp e kvs' i q (s123.trans (s4.trans st)) he upd_same (LayAt.mono (s4.trans st) hqp) (st _ _ ee) ((hpa.mono (off_mono st)).before s123) fst
end
end Bx
set_option Elab.async false
set_option linter.all false
set_option maxRecDepth 100000
set_option maxHeartbeats 1000000
/-! BxW1: the law's drawing. -/
namespace Bx
open PySem PySem.Spec PyProof.Rows L2
/-- a purse at q, of which at most B have been taken -/
def PurseAt (H : Hp) (q : Addr) (B : Nat) : Prop := ∃ a b c : Int, H q = some (.lst [.int a, .int b, .int c]) ∧ 0 ≤ a ∧ 0 ≤ b ∧ b < 2147483587 ∧ 0 ≤ c ∧ c ≤ (B : Int)
theorem PurseAt.up {H : Hp} {q : Addr} {B C : Nat} (h : PurseAt H q B) (k : B ≤ C) : PurseAt H q C := by
  obtain ⟨a, b, c, h1, h2, h3, h4, h5, h6⟩ := h
  exact ⟨a, b, c, h1, h2, h3, h4, h5, by omega⟩
theorem PurseAt.mono {H H' : Hp} {q : Addr} {B : Nat} (S : Same H H') (h : PurseAt H q B) : PurseAt H' q B := by
  obtain ⟨a, b, c, h1, h2⟩ := h
  exact ⟨a, b, c, S _ _ h1, h2⟩
theorem sm_put {H : Hp} {q : Addr} (u : HO) : Sm [q] H (upd H q u) := fun b o m z => by
  rw [upd_ne fun e => m (List.mem_singleton.mpr e)]
  exact z
section
variable {P : Program} {w : World} {K : PySem.W.Frag} {mg : Str → Option Value} {base : Heap}
def spCell (K : PySem.W.Frag) : Sp := fun vs H Q _ => ∃ l xs, ∃ k : Nat, vs = [.ref l, .int (k : Int)] ∧ SqL K H l ((xs : List Int).map V.int) ∧ ∀ c, Q (.int c) H
theorem sc__law_cell : FnScope ["_law_script", "_law_k"] ["_law_script", "_law_k"] (defScope s__law_cell) := ⟨rfl, rfl, rfl, by decide +kernel, rfl, by decide +kernel, by decide +kernel⟩
theorem F__law_cell (T : Env w K mg) : Fx P w K mg base "_law_cell" 1 ["_law_script", "_law_k"] (spCell K) := by
  obtain ⟨fd, F⟩ := T.d__law_cell
  refine ⟨_, fd, T.glo__law_cell, F.kp, F.bindsN fun _ _ _ _ _ _ us hl => match us, hl with | [_, _], _ => rfl, ?_⟩
  refine F.ok sc__law_cell (fun vs H Q E h => ?_) (fun cdv A outer s H vs Q E hr h => ?_)
  · obtain ⟨l, xs, k, rfl, _⟩ := h
    rfl
  · obtain ⟨l, xs, k, rfl, hl, q⟩ := h
    refine ⟨_, PSs.nox (pss_cons (ps_if (pt_cmpR op_lt (pv 1) (pe_callB call_len_seq (by rfl) T.free_len (by decide +kernel) (pa_cons (pv 0) pa_nil)) (nomark _)) (pss_one (ps_ret (pe_ix ix_list (pv 0) (pv 1) (fun _ _ => rfl)))) pss_nil) (pss_one (ps_ret (pe_op op_add (pe_op op_mul pe_int (pv 1)) pe_int)))), ?_⟩
    refine ⟨_, rfl, _, rfl, l, _, rfl, .inl hl, _, _, rfl, rfl, _, rfl, ite2 (fun hb => ?_) (fun hb => ?_)⟩
    · have hb := of_decide_eq_true hb
      rw [List.length_map] at hb
      have hb : k < xs.length := by omega
      refine ⟨_, rfl, _, rfl, l, _, _, .int xs[k], rfl, rfl, hl, ?_, q _⟩
      exact atI_nat (by rw [List.getElem?_map, List.getElem?_eq_getElem hb]; rfl)
    · exact ⟨_, rfl, _, _, rfl, rfl, .inl ⟨by decide, by decide⟩, _, _, rfl, rfl, q _⟩
def spPurse : Sp := fun vs H Q _ => ∃ c : Int, vs = [.int c] ∧ ∀ q, H q = none → ∀ H', Same H H' → PurseAt H' q 0 → Q (.ref q) H'
theorem sc__law_purse : FnScope ["_law_cell_here"] ["_law_cell_here"] (defScope s__law_purse) := ⟨rfl, rfl, rfl, by decide +kernel, rfl, by decide +kernel, by decide +kernel⟩
theorem F__law_purse (T : Env w K mg) : Fx P w K mg base "_law_purse" 1 ["_law_cell_here"] spPurse := by
  obtain ⟨fd, F⟩ := T.d__law_purse
  refine ⟨_, fd, T.glo__law_purse, F.kp, F.bindsN fun _ _ _ _ _ _ us hl => match us, hl with | [_], _ => rfl, ?_⟩
  refine F.ok sc__law_purse (fun vs H Q E h => ?_) (fun cdv A outer s H vs Q E hr h => ?_)
  · obtain ⟨c, rfl, _⟩ := h
    rfl
  · obtain ⟨c, rfl, q⟩ := h
    refine ⟨_, PSs.nox (pss_one (ps_ret (pe_lst (pa_cons (pe_callB (call_max2 rfl) (by rfl) T.free_max (by decide +kernel) (pa_cons pe_int (pa_cons (pe_op op_sub (pv 0) (pe_op op_pow pe_int pe_int)) pa_nil))) (pa_cons (pe_op op_mod (pv 0) pe_int) (pa_cons pe_int pa_nil)))))), ?_⟩
    refine ⟨_, rfl, _, _, rfl, rfl, ⟨by decide, by decide, by decide⟩, _, _, rfl, rfl, _, _, rfl, _, rfl, _, _, rfl, rfl, (show (0 : Int) < 2147483587 by decide), (by show 3 ≤ sizeLine; decide), fun l hl => ?_⟩
    refine q l hl _ (same_upd hl) ⟨_, _, _, upd_same, ?_, Int.emod_nonneg _ (by decide), Int.emod_lt_of_pos _ (by decide), Int.le_refl _, Int.le_refl _⟩
    split <;> omega
def spTake : Sp := fun vs H Q _ => ∃ q B m, vs = [.ref q, .int m] ∧ PurseAt H q B ∧ B ≤ 1000000 ∧ 1 ≤ m ∧ m ≤ 1000000 ∧ ∀ H' n, Sm [q] H H' → PurseAt H' q (B + 1) → 0 ≤ n → n < m → Q (.int n) H'
theorem sc__law_take : FnScope ["_law_purse_here", "_law_many", "_law_digit", "_law_one", "_law_other"] ["_law_purse_here", "_law_many"] (defScope s__law_take) := ⟨rfl, rfl, rfl, by decide +kernel, rfl, by decide +kernel, by decide +kernel⟩
theorem F__law_take (T : Env w K mg) : Fx P w K mg base "_law_take" 1 ["_law_purse_here", "_law_many"] spTake := by
  obtain ⟨fd, F⟩ := T.d__law_take
  refine ⟨_, fd, T.glo__law_take, F.kp, F.bindsN fun _ _ _ _ _ _ us hl => match us, hl with | [_, _], _ => rfl, ?_⟩
  refine F.ok sc__law_take (fun vs H Q E h => ?_) (fun cdv A outer s H vs Q E hr h => ?_)
  · obtain ⟨q, B, m, rfl, _⟩ := h
    rfl
  · obtain ⟨q, B, m, rfl, hq, hB, h1, h2, k⟩ := h
    refine ⟨_, PSs.nox (pss_cons (ps_if (pt_cmpR op_gt (pe_ix ix_list (pv 0) pe_int (fun _ _ => rfl)) pe_int (nomark _)) (pss_cons (ps_set (i := 2) sc__law_take.nd rfl (Or.inl rfl) (pe_op op_mod (pe_ix ix_list (pv 0) pe_int (fun _ _ => rfl)) (pv 1))) (pss_cons (ps_asg (pe_op op_fdiv (pe_ix ix_list (pv 0) pe_int (fun _ _ => rfl)) (pv 1)) (pg_sub (pv 0) pe_int set_list)) (pss_one (ps_ret (pv 2))))) pss_nil) (pss_cons (ps_asg (pe_op op_add (pe_ix ix_list (pv 0) pe_int (fun _ _ => rfl)) pe_int) (pg_sub (pv 0) pe_int set_list)) (pss_cons (ps_set (i := 3) sc__law_take.nd rfl (Or.inl rfl) (pe_op op_mod (pe_op op_pow (pe_op op_add (pe_op op_add (pe_ix ix_list (pv 0) pe_int (fun _ _ => rfl)) (pe_op op_mul pe_int (pe_ix ix_list (pv 0) pe_int (fun _ _ => rfl)))) pe_int) pe_int) pe_int)) (pss_cons (ps_set (i := 4) sc__law_take.nd rfl (Or.inl rfl) (pe_op op_mod (pe_op op_pow (pe_op op_add (pe_op op_mul (pe_ix ix_list (pv 0) pe_int (fun _ _ => rfl)) (pe_ix ix_list (pv 0) pe_int (fun _ _ => rfl))) pe_int) pe_int) pe_int)) (pss_one (ps_ret (pe_op op_mod (pe_op op_fdiv (pe_op op_add (pe_op op_mul (pv 3) pe_int) (pv 4)) pe_int) (pv 1)))))))), ?_⟩
    obtain ⟨a, b, c, eq, a0, b0, b1, c0, c1⟩ := hq
    have hm : (0 : Int) < m := by omega
    refine ⟨_, rfl, q, _, _, _, rfl, rfl, SqL.of eq, rfl, _, _, rfl, rfl, _, rfl, ite2 (fun hb => ?_) (fun hb => ?_)⟩
    · refine ⟨_, rfl, q, _, _, _, rfl, rfl, SqL.of eq, rfl, _, rfl, _, _, rfl, rfl, hm, ?_⟩
      refine ⟨_, rfl, q, _, _, _, rfl, rfl, SqL.of eq, rfl, _, rfl, _, _, rfl, rfl, ⟨hm, by omega⟩, _, rfl, q, _, _, 0, rfl, rfl, eq, rfl, ?_⟩
      refine ⟨_, rfl, k _ _ (sm_put _) ⟨_, _, _, upd_same, Int.ediv_nonneg a0 (by omega), b0, b1, c0, by omega⟩ (Int.emod_nonneg _ (by omega)) (Int.emod_lt_of_pos _ hm)⟩
    · refine ⟨_, rfl, q, _, _, _, rfl, rfl, SqL.of eq, rfl, _, _, rfl, rfl, _, rfl, q, _, _, 2, rfl, rfl, eq, rfl, ?_⟩
      have s1 : Sm [q] H (upd H q (.lst [.int a, .int b, .int (c + 1)])) := sm_put _
      have eq2 : (upd H q (.lst [.int a, .int b, .int (c + 1)])) q = some (.lst [.int a, .int b, .int (c + 1)]) := upd_same
      show tSeq _ _ _ _ (upd H q (.lst [.int a, .int b, .int (c + 1)]))
      generalize upd H q (.lst [.int a, .int b, .int (c + 1)]) = H2 at s1 eq2
      have d1 : (0 : Int) < 2147483647 := by decide
      have d2 : (0 : Int) < 2147483629 := by decide
      refine ⟨_, rfl, q, _, _, _, rfl, rfl, SqL.of eq2, rfl, _, rfl, q, _, _, _, rfl, rfl, SqL.of eq2, rfl, _, _, rfl, rfl, .inl ⟨by decide, by decide⟩, _, _, rfl, rfl, _, _, rfl, rfl, _, _, rfl, rfl, ⟨by decide, by decide, by omega⟩, _, _, rfl, rfl, d1, ?_⟩
      refine ⟨_, rfl, q, _, _, _, rfl, rfl, SqL.of eq2, rfl, _, rfl, q, _, _, _, rfl, rfl, SqL.of eq2, rfl, _, _, rfl, rfl, .inl ⟨by omega, by omega⟩, _, _, rfl, rfl, _, _, rfl, rfl, ⟨by decide, by decide, ?_⟩, _, _, rfl, rfl, d2, ?_⟩
      · have e1 : b * (c + 1) ≤ 2147483587 * 1000001 := Int.mul_le_mul (by omega) (by omega) (by omega) (by omega)
        have e2 : 0 ≤ b * (c + 1) := Int.mul_nonneg b0 (by omega)
        generalize b * (c + 1) = z at e1 e2
        show (z + 65003).natAbs < 2 ^ 64
        omega
      · have e1 := Int.emod_nonneg ((b + 7001 * (c + 1) + 37) ^ (5 : Int).toNat) (Int.ne_of_gt d1)
        have e2 := Int.emod_lt_of_pos ((b + 7001 * (c + 1) + 37) ^ (5 : Int).toNat) d1
        refine ⟨_, rfl, _, _, rfl, rfl, .inr ⟨by decide, by decide⟩, _, rfl, _, _, rfl, rfl, _, _, rfl, rfl, ⟨by decide, by decide⟩, _, rfl, _, _, rfl, rfl, hm, ?_⟩
        exact k _ _ s1 ⟨a, b, c + 1, eq2, a0, b0, b1, by omega, by omega⟩ (Int.emod_nonneg _ (by omega)) (Int.emod_lt_of_pos _ hm)
end
end Bx
set_option Elab.async false
set_option linter.all false
set_option maxRecDepth 100000
set_option maxHeartbeats 1000000
/-! BxW2: orders, three, picked. -/
namespace Bx
open PySem PySem.Spec PyProof.Rows L2
theorem len3 {α : Type} {l : List α} (h : l.length = 3) : ∃ a b c, l = [a, b, c] := match l, h with
  | [a, b, c], _ => ⟨a, b, c, rfl⟩
theorem PurseAt.has {H : Hp} {q D : Addr} {B : Nat} (h : PurseAt H q B) (n : H D = none) : D ≠ q := fun z => by
  obtain ⟨_, _, _, e, _⟩ := h
  rw [← z, n] at e
  cases e
theorem sm_fresh {H A : Hp} {D q : Addr} {u : HO} (s : Sm [q] H A) (n : H D = none) : Sm [q] H (upd A D u) := fun b o m z => by
  rw [upd_ne fun e => by rw [e, n] at z; cases z]
  exact s _ _ m z
theorem PurseAt.put {H : Hp} {q D : Addr} {B : Nat} {u : HO} (h : PurseAt H q B) (n : D ≠ q) : PurseAt (upd H D u) q B := by
  obtain ⟨a, b, c, e, z⟩ := h
  refine ⟨a, b, c, ?_, z⟩
  rw [upd_ne n.symm]
  exact e
theorem map_erase {α β : Type} (f : α → β) : ∀ (l : List α) (k : Nat), (l.map f).eraseIdx k = (l.eraseIdx k).map f
  | [], _ => rfl
  | _ :: _, 0 => rfl
  | a :: l, k + 1 => by
    show f a :: (l.map f).eraseIdx k = f a :: (l.eraseIdx k).map f
    rw [map_erase f l k]
theorem erase_perm {α : Type} : ∀ {l : List α} {k : Nat} (h : k < l.length), ([l[k]] ++ l.eraseIdx k).Perm l
  | a :: l, 0, h => .refl _
  | a :: l, k + 1, h => by
    have hk : k < l.length := Nat.lt_of_succ_lt_succ h
    have := erase_perm (l := l) (k := k) hk
    show (l[k] :: a :: l.eraseIdx k).Perm (a :: l)
    exact (List.Perm.swap a l[k] _).trans (this.cons a)
section
variable {P : Program} {w : World} {K : PySem.W.Frag} {mg : Str → Option Value} {base : Heap}
def spOrders (K : PySem.W.Frag) : Sp := fun vs H Q _ => vs = [] ∧ ∀ r H' ts, Same H H' → H r = none → H' r = some (.lst ts) → ts.length = 6 → (∀ o : Fin 6, ∃ v, ts[o.val]? = some v ∧ TupAt K H' v (oV o)) → Q (.ref r) H'
theorem sc__law_orders : FnScope [] [] (defScope s__law_orders) := ⟨rfl, rfl, rfl, by decide +kernel, rfl, by decide +kernel, by decide +kernel⟩
theorem F__law_orders (T : Env w K mg) : Fx P w K mg base "_law_orders" 1 [] (spOrders K) := by
  obtain ⟨fd, F⟩ := T.d__law_orders
  refine ⟨_, fd, T.glo__law_orders, F.kp, F.bindsN fun _ _ _ _ _ _ us hl => match us, hl with | [], _ => rfl, ?_⟩
  refine F.ok sc__law_orders (fun vs H Q E h => ?_) (fun cdv A outer s H vs Q E hr h => ?_)
  · obtain ⟨rfl, _⟩ := h
    rfl
  · obtain ⟨rfl, k⟩ := h
    refine ⟨_, PSs.nox (pss_one (ps_ret (pe_lst (pa_cons (pe_tup (pa_cons pe_int (pa_cons pe_int (pa_cons pe_int pa_nil)))) (pa_cons (pe_tup (pa_cons pe_int (pa_cons pe_int (pa_cons pe_int pa_nil)))) (pa_cons (pe_tup (pa_cons pe_int (pa_cons pe_int (pa_cons pe_int pa_nil)))) (pa_cons (pe_tup (pa_cons pe_int (pa_cons pe_int (pa_cons pe_int pa_nil)))) (pa_cons (pe_tup (pa_cons pe_int (pa_cons pe_int (pa_cons pe_int pa_nil)))) (pa_cons (pe_tup (pa_cons pe_int (pa_cons pe_int (pa_cons pe_int pa_nil)))) pa_nil))))))))), ?_⟩
    have f3 : 3 ≤ sizeLine := by decide
    refine ⟨f3, fun p0 h0 => ⟨f3, fun p1 h1 => ⟨f3, fun p2 h2 => ⟨f3, fun p3 h3 => ⟨f3, fun p4 h4 => ⟨f3, fun p5 h5 => ⟨(by show 6 ≤ sizeLine; decide), fun r hr => ?_⟩⟩⟩⟩⟩⟩⟩
    have s0 := same_upd (u := .tup (oV 0)) h0
    have e0 : (upd H p0 (.tup (oV 0))) p0 = some (.tup (oV 0)) := upd_same
    change (upd H p0 (.tup (oV 0))) p1 = none at h1
    change (upd (upd H p0 (.tup (oV 0))) p1 (.tup (oV 1))) p2 = none at h2
    change (upd (upd (upd H p0 (.tup (oV 0))) p1 (.tup (oV 1))) p2 (.tup (oV 2))) p3 = none at h3
    change (upd (upd (upd (upd H p0 (.tup (oV 0))) p1 (.tup (oV 1))) p2 (.tup (oV 2))) p3 (.tup (oV 3))) p4 = none at h4
    change (upd (upd (upd (upd (upd H p0 (.tup (oV 0))) p1 (.tup (oV 1))) p2 (.tup (oV 2))) p3 (.tup (oV 3))) p4 (.tup (oV 4))) p5 = none at h5
    change (upd (upd (upd (upd (upd (upd H p0 (.tup (oV 0))) p1 (.tup (oV 1))) p2 (.tup (oV 2))) p3 (.tup (oV 3))) p4 (.tup (oV 4))) p5 (.tup (oV 5))) r = none at hr
    show Q (.ref r) (upd (upd (upd (upd (upd (upd (upd H p0 (.tup (oV 0))) p1 (.tup (oV 1))) p2 (.tup (oV 2))) p3 (.tup (oV 3))) p4 (.tup (oV 4))) p5 (.tup (oV 5))) r (.lst [.ref p0, .ref p1, .ref p2, .ref p3, .ref p4, .ref p5]))
    generalize upd H p0 (.tup (oV 0)) = G0 at *
    have s1 := same_upd (u := .tup (oV 1)) h1
    have e1 : (upd G0 p1 (.tup (oV 1))) p1 = some (.tup (oV 1)) := upd_same
    generalize upd G0 p1 (.tup (oV 1)) = G1 at *
    have s2 := same_upd (u := .tup (oV 2)) h2
    have e2 : (upd G1 p2 (.tup (oV 2))) p2 = some (.tup (oV 2)) := upd_same
    generalize upd G1 p2 (.tup (oV 2)) = G2 at *
    have s3 := same_upd (u := .tup (oV 3)) h3
    have e3 : (upd G2 p3 (.tup (oV 3))) p3 = some (.tup (oV 3)) := upd_same
    generalize upd G2 p3 (.tup (oV 3)) = G3 at *
    have s4 := same_upd (u := .tup (oV 4)) h4
    have e4 : (upd G3 p4 (.tup (oV 4))) p4 = some (.tup (oV 4)) := upd_same
    generalize upd G3 p4 (.tup (oV 4)) = G4 at *
    have s5 := same_upd (u := .tup (oV 5)) h5
    have e5 : (upd G4 p5 (.tup (oV 5))) p5 = some (.tup (oV 5)) := upd_same
    generalize upd G4 p5 (.tup (oV 5)) = G5 at *
    have sr := same_upd (u := .lst [.ref p0, .ref p1, .ref p2, .ref p3, .ref p4, .ref p5]) hr
    have a5 := s5.trans sr
    have a4 := s4.trans a5
    have a3 := s3.trans a4
    have a2 := s2.trans a3
    have a1 := s1.trans a2
    have a0 := s0.trans a1
    have hn : H r = none := by
      cases z : H r with
      | none => rfl
      | some u =>
        rw [(s0.trans (s1.trans (s2.trans (s3.trans (s4.trans s5))))) _ _ z] at hr
        cases hr
    refine k r _ _ a0 hn upd_same rfl fun o => ?_
    match o with
    | 0 => exact ⟨_, rfl, p0, rfl, SqT.of (a1 _ _ e0)⟩
    | 1 => exact ⟨_, rfl, p1, rfl, SqT.of (a2 _ _ e1)⟩
    | 2 => exact ⟨_, rfl, p2, rfl, SqT.of (a3 _ _ e2)⟩
    | 3 => exact ⟨_, rfl, p3, rfl, SqT.of (a4 _ _ e3)⟩
    | 4 => exact ⟨_, rfl, p4, rfl, SqT.of (a5 _ _ e4)⟩
    | 5 => exact ⟨_, rfl, p5, rfl, SqT.of (sr _ _ e5)⟩
def spThree : Sp := fun vs H Q _ => ∃ q B m, vs = [.ref q, .int m] ∧ PurseAt H q B ∧ B ≤ 900000 ∧ 12 ≤ m ∧ m ≤ 100000 ∧
  ∀ r H' t, Sm [q] H H' → PurseAt H' q (B + 6) → H r = none → H' r = some (.lst (T3.v t)) → (∀ k, 1 ≤ t.get k ∧ t.get k ≤ m) → Q (.ref r) H'
theorem sc__law_three : FnScope ["_law_purse_here", "_law_most", "_law_great", "_law_found", "_law_way", "_law_k"] ["_law_purse_here", "_law_most"] (defScope s__law_three) := ⟨rfl, rfl, rfl, by decide +kernel, rfl, by decide +kernel, by decide +kernel⟩
theorem F__law_three (T : Env w K mg) : Fx P w K mg base "_law_three" 2 ["_law_purse_here", "_law_most"] spThree := by
  obtain ⟨fd, F⟩ := T.d__law_three
  have F__law_take := F__law_take (P := P) (base := base) T
  refine ⟨_, fd, T.glo__law_three, F.kp, F.bindsN fun _ _ _ _ _ _ us hl => match us, hl with | [_, _], _ => rfl, ?_⟩
  refine F.ok sc__law_three (fun vs H Q E h => ?_) (fun cdv A outer s H vs Q E hr h => ?_)
  · obtain ⟨q, B, m, rfl, _⟩ := h
    rfl
  · obtain ⟨q, B, m, rfl, hq, hB, h1, h2, k⟩ := h
    refine ⟨_, PSs.nox (pss_cons (ps_set (i := 2) sc__law_three.nd rfl (Or.inr rfl) (pe_ix ix_list (pe_lst (pa_cons pe_int (pa_cons pe_int (pa_cons (pv 1) pa_nil)))) (pe_fx F__law_take (hr.mono (by decide)) rfl (pa_cons (pv 0) (pa_cons pe_int pa_nil))) (fun _ _ => rfl))) (pss_cons (ps_setLc (i := 3) (own := [("_law_k", 5)]) (g := gName 5) (tt := tYes) (by rfl) sc__law_three.nd rfl rfl (sw_true rfl rfl rfl (by decide +kernel)) (pi_range1 rfl T.free_range (pa_cons pe_int pa_nil)) (blkOk_by (own := [("_law_k", 5)]) (N := ["_law_purse_here", "_law_most", "_law_great", "_law_found", "_law_way", "_law_k"]) (sc := defScope s__law_three) (by decide +kernel)) (fun _ _ _ _ _ => (pg_name (i := 5) sc__law_three.nd rfl (Or.inl rfl))) (fun _ _ _ _ _ => pts_nil) (fun _ _ _ _ _ => (pe_op op_add pe_int (pe_fx F__law_take (hr.mono (by decide)) rfl (pa_cons (pv 0) (pa_cons (pv 2) pa_nil)))))) (pss_cons (ps_set (i := 4) sc__law_three.nd rfl (Or.inl rfl) (pe_fx F__law_take (hr.mono (by decide)) rfl (pa_cons (pv 0) (pa_cons pe_int pa_nil)))) (C8.pss_cut (ps_if (pt_cmpR op_lt (pv 4) pe_int (nomark _)) (pss_one (ps_asg (pe_ix ix_list (pv 3) (pe_op op_mod (pe_op op_add (pv 4) pe_int) pe_int) (fun _ _ => rfl)) (pg_sub (pv 3) (pv 4) set_list))) pss_nil) (C8.pss_cut (ps_if (pt_cmpR op_eq (pv 4) pe_int (nomark _)) (pss_one (ps_set (i := 3) sc__law_three.nd rfl (Or.inl rfl) (pe_lst (pa_cons (pe_ix ix_list (pv 3) pe_int (fun _ _ => rfl)) (pa_cons (pe_ix ix_list (pv 3) pe_int (fun _ _ => rfl)) (pa_cons (pe_ix ix_list (pv 3) pe_int (fun _ _ => rfl)) pa_nil)))))) pss_nil) (C8.pss_cut (ps_if (pt_cmpR op_eq (pv 4) pe_int (nomark _)) (pss_one (ps_asg (pv 1) (pg_sub (pv 3) (pe_fx F__law_take (hr.mono (by decide)) rfl (pa_cons (pv 0) (pa_cons pe_int pa_nil))) set_list))) pss_nil) (pss_one (ps_ret (pv 3))))))))), ?_⟩
    refine ⟨_, rfl, (by show 3 ≤ sizeLine; decide), fun l0 hl0 => ?_⟩
    have nl0 : q ≠ l0 := fun z => by
      obtain ⟨_, _, _, e, _⟩ := hq
      rw [z, hl0] at e
      cases e
    have s0 : Same H (upd H l0 (.lst [.int 3, .int 12, .int m])) := same_upd hl0
    refine ⟨_, rfl, q, B, 3, rfl, hq.mono s0, by omega, by decide, by decide, fun H1 n s1 hq1 n0 n1 => ?_⟩
    have el0 : H1 l0 = some (.lst [.int 3, .int 12, .int m]) := s1 _ _ (fun z => nl0 (List.mem_singleton.mp z).symm) upd_same
    obtain ⟨g, eg, g1, g2⟩ : ∃ g : Int, atI [V.int 3, .int 12, .int m] n = some (.int g) ∧ 1 ≤ g ∧ g ≤ m := by
      rcases (show n = 0 ∨ n = 1 ∨ n = 2 by omega) with rfl | rfl | rfl
      · exact ⟨3, rfl, by decide, by omega⟩
      · exact ⟨12, rfl, by decide, by omega⟩
      · exact ⟨m, rfl, by omega, by omega⟩
    refine ⟨l0, _, n, _, rfl, rfl, SqL.of el0, eg, ?_⟩
    refine ⟨3, rfl, by decide, by decide, fun D hD => lc_map (walk_rng (n := 3)) [q] (fun i A => PurseAt A q (B + 1 + i)) (fun i => ((rngVs 3)[i]?).getD .non) (fun _ y _ => ∃ x : Int, y = .int x ∧ 1 ≤ x ∧ x ≤ m) (fun i A x B' hi y => ⟨y.1, by rw [y.2]; rfl⟩) hD (fun z => ?_) (show 3 ≤ sizeLine by decide) (fun i A u z => ?_) hq1 (fun _ _ _ _ _ z => z) (fun _ _ => trivial) (fun i A hi sA hA Kt kt => ?_) (fun A acc sA hA eD la hR => ?_)⟩
    · obtain ⟨_, _, _, e, _⟩ := hq1
      rw [List.mem_singleton.mp z, e] at hD
      cases hD
    · obtain ⟨a', b', c', e, z⟩ := z
      refine ⟨a', b', c', ?_, z⟩
      obtain ⟨_, _, _, e2, _⟩ := hq1
      rw [upd_ne fun y => by rw [← y, e2] at hD; cases hD]
      exact e
    · have hi3 : i < 3 := hi
      refine ⟨_, rfl, _, rfl, q, B + 1 + i, g, rfl, hA, by omega, g1, by omega, fun A2 n2 s2 hq2 b0 b1 => ⟨_, _, rfl, rfl, kt _ _ s2 hq2 ⟨_, rfl, by omega, by omega⟩⟩⟩
    · obtain ⟨u0, u1, u2, rfl⟩ := len3 (show acc.length = 3 from la)
      obtain ⟨x0, rfl, x01, x02⟩ := hR 0 _ rfl
      obtain ⟨x1, rfl, x11, x12⟩ := hR 1 _ rfl
      obtain ⟨x2, rfl, x21, x22⟩ := hR 2 _ rfl
      have nDq : D ≠ q := hq1.has hD
      have sHA : Sm [q] H A := (Same_sm s0).trans (s1.trans sA)
      have hDH : H D = none := by
        cases z : H D with
        | none => rfl
        | some u =>
          rw [((Same_sm s0).trans s1) D u (fun y => nDq (List.mem_singleton.mp y)) z] at hD
          cases hD
      refine ⟨_, rfl, q, B + 1 + 3, 6, rfl, hA, by omega, by decide, by decide, fun A3 wy s3 hq3 c0 c1 => ?_⟩
      have eD3 : A3 D = some (.lst [.int x0, .int x1, .int x2]) := s3 D _ (fun y => nDq (List.mem_singleton.mp y)) eD
      have good : ∀ (σ' : L2.St) (A : Hp), (∃ r t, σ' = [some (.ref q), some (.int m), some (.int g), some (.ref r), some (.int wy), none] ∧ Sm [q] H A ∧ PurseAt A q (B + 5) ∧ H r = none ∧ r ≠ q ∧ A r = some (.lst (T3.v t)) ∧ ∀ k, 1 ≤ t.get k ∧ t.get k ≤ m) → True := fun _ _ _ => trivial
      refine ⟨fun σ' A => ∃ r t, σ' = [some (.ref q), some (.int m), some (.int g), some (.ref r), some (.int wy), none] ∧ Sm [q] H A ∧ PurseAt A q (B + 5) ∧ H r = none ∧ r ≠ q ∧ A r = some (.lst (T3.v t)) ∧ ∀ k, 1 ≤ t.get k ∧ t.get k ≤ m, ?_, ?_⟩
      · refine ⟨_, rfl, _, _, rfl, rfl, _, rfl, ite2 (fun hb => ?_) (fun hb => ?_)⟩
        · have hb := of_decide_eq_true hb
          rcases (show wy = 0 ∨ wy = 1 ∨ wy = 2 by omega) with rfl | rfl | rfl
          · exact ⟨_, rfl, _, rfl, _, _, rfl, rfl, _, _, rfl, rfl, (by decide : (0 : Int) < 3), D, _, _, _, rfl, rfl, SqL.of eD3, rfl, _, rfl, _, rfl, D, _, 0, 0, rfl, rfl, eD3, rfl, D, ⟨x1, x1, x2⟩, rfl, sm_fresh (sHA.trans s3) hDH, hq3.put nDq, hDH, nDq, upd_same, fun k => match k with
            | 0 => ⟨x11, x12⟩
            | 1 => ⟨x11, x12⟩
            | 2 => ⟨x21, x22⟩⟩
          · exact ⟨_, rfl, _, rfl, _, _, rfl, rfl, _, _, rfl, rfl, (by decide : (0 : Int) < 3), D, _, _, _, rfl, rfl, SqL.of eD3, rfl, _, rfl, _, rfl, D, _, 1, 1, rfl, rfl, eD3, rfl, D, ⟨x0, x2, x2⟩, rfl, sm_fresh (sHA.trans s3) hDH, hq3.put nDq, hDH, nDq, upd_same, fun k => match k with
            | 0 => ⟨x01, x02⟩
            | 1 => ⟨x21, x22⟩
            | 2 => ⟨x21, x22⟩⟩
          · exact ⟨_, rfl, _, rfl, _, _, rfl, rfl, _, _, rfl, rfl, (by decide : (0 : Int) < 3), D, _, _, _, rfl, rfl, SqL.of eD3, rfl, _, rfl, _, rfl, D, _, 2, 2, rfl, rfl, eD3, rfl, D, ⟨x0, x1, x0⟩, rfl, sm_fresh (sHA.trans s3) hDH, hq3.put nDq, hDH, nDq, upd_same, fun k => match k with
            | 0 => ⟨x01, x02⟩
            | 1 => ⟨x11, x12⟩
            | 2 => ⟨x01, x02⟩⟩
        · exact ⟨D, ⟨x0, x1, x2⟩, rfl, sHA.trans s3, hq3, hDH, nDq, eD3, fun k => match k with
            | 0 => ⟨x01, x02⟩
            | 1 => ⟨x11, x12⟩
            | 2 => ⟨x21, x22⟩⟩
      · rintro σ' A4 ⟨r, t, rfl, s4, hq4, hr4, nrq, er4, ht⟩
        refine ⟨fun σ' A => ∃ r t, σ' = [some (.ref q), some (.int m), some (.int g), some (.ref r), some (.int wy), none] ∧ Sm [q] H A ∧ PurseAt A q (B + 5) ∧ H r = none ∧ r ≠ q ∧ A r = some (.lst (T3.v t)) ∧ ∀ k, 1 ≤ t.get k ∧ t.get k ≤ m, ?_, ?_⟩
        · have at0 : atI (T3.v t) 0 = some (.int t.x) := rfl
          refine ⟨_, rfl, rfl, _, rfl, ite2 (fun hb => ?_) (fun hb => ?_)⟩
          · refine ⟨_, rfl, r, _, 0, _, rfl, rfl, SqL.of er4, at0, _, rfl, r, _, 0, _, rfl, rfl, SqL.of er4, at0, _, rfl, r, _, 0, _, rfl, rfl, SqL.of er4, at0, (by show 3 ≤ sizeLine; decide), fun r2 hr2 => ?_⟩
            have h2 : H r2 = none := by
              cases z : H r2 with
              | none => rfl
              | some u =>
                rw [s4 r2 u (fun y => hq4.has hr2 (List.mem_singleton.mp y)) z] at hr2
                cases hr2
            exact ⟨r2, ⟨t.x, t.x, t.x⟩, rfl, sm_fresh s4 h2, hq4.put (hq4.has hr2), h2, hq4.has hr2, upd_same, fun k => match k with
              | 0 => ht 0
              | 1 => ht 0
              | 2 => ht 0⟩
          · exact ⟨r, t, rfl, s4, hq4, hr4, nrq, er4, ht⟩
        · rintro σ' A5 ⟨r, t, rfl, s5, hq5, hr5, nrq5, er5, ht⟩
          refine ⟨fun σ' A => ∃ r t, σ' = [some (.ref q), some (.int m), some (.int g), some (.ref r), some (.int wy), none] ∧ Sm [q] H A ∧ PurseAt A q (B + 6) ∧ H r = none ∧ r ≠ q ∧ A r = some (.lst (T3.v t)) ∧ ∀ k, 1 ≤ t.get k ∧ t.get k ≤ m, ?_, ?_⟩
          · refine ⟨_, rfl, rfl, _, rfl, ite2 (fun hb => ?_) (fun hb => ?_)⟩
            · refine ⟨_, rfl, _, rfl, _, rfl, q, B + 5, 3, rfl, hq5, by omega, by decide, by decide, fun A6 n3 s6 hq6 d0 d1 => ?_⟩
              have er6 := s6 r _ (fun y => nrq5 (List.mem_singleton.mp y)) er5
              rcases (show n3 = 0 ∨ n3 = 1 ∨ n3 = 2 by omega) with rfl | rfl | rfl
              · exact ⟨r, _, 0, 0, rfl, rfl, er6, rfl, r, ⟨m, t.y, t.z⟩, rfl, sm_fresh (s5.trans s6) hr5, hq6.put nrq5, hr5, nrq5, upd_same, fun k => match k with
                  | 0 => ⟨by show 1 ≤ m; omega, Int.le_refl _⟩
                  | 1 => ht 1
                  | 2 => ht 2⟩
              · exact ⟨r, _, 1, 1, rfl, rfl, er6, rfl, r, ⟨t.x, m, t.z⟩, rfl, sm_fresh (s5.trans s6) hr5, hq6.put nrq5, hr5, nrq5, upd_same, fun k => match k with
                  | 0 => ht 0
                  | 1 => ⟨by show 1 ≤ m; omega, Int.le_refl _⟩
                  | 2 => ht 2⟩
              · exact ⟨r, _, 2, 2, rfl, rfl, er6, rfl, r, ⟨t.x, t.y, m⟩, rfl, sm_fresh (s5.trans s6) hr5, hq6.put nrq5, hr5, nrq5, upd_same, fun k => match k with
                  | 0 => ht 0
                  | 1 => ht 1
                  | 2 => ⟨by show 1 ≤ m; omega, Int.le_refl _⟩⟩
            · exact ⟨r, t, rfl, s5, hq5.up (by omega), hr5, nrq5, er5, ht⟩
          · rintro σ' A6 ⟨r, t, rfl, s6, hq6, hr6, nrq6, er6, ht⟩
            exact ⟨_, rfl, k r A6 t s6 hq6 hr6 er6 ht⟩
def spPicked (K : PySem.W.Frag) : Sp := fun vs H Q _ => ∃ q B p ns, ∃ m : Nat, vs = [.ref q, .ref p, .int (m : Int)] ∧ PurseAt H q B ∧ B ≤ 900000 ∧ p ≠ q ∧ SqL K H p ((ns : List Str).map V.str) ∧ m ≤ ns.length ∧ m ≤ 12 ∧ ns.length ≤ 1000000 ∧
  ∀ r H' ks, ∀ rest : List Str, Sm [q] H H' → PurseAt H' q (B + m) → H r = none → H' r = some (.lst (ks.map V.str)) → (ks ++ rest).Perm ns → ks.length = m → Q (.ref r) H'
theorem sc__law_picked : FnScope ["_law_purse_here", "_law_names_here", "_law_many", "_law_left", "_law_k"] ["_law_purse_here", "_law_names_here", "_law_many"] (defScope s__law_picked) := ⟨rfl, rfl, rfl, by decide +kernel, rfl, by decide +kernel, by decide +kernel⟩
theorem F__law_picked (T : Env w K mg) : Fx P w K mg base "_law_picked" 2 ["_law_purse_here", "_law_names_here", "_law_many"] (spPicked K) := by
  obtain ⟨fd, F⟩ := T.d__law_picked
  have F__law_take := F__law_take (P := P) (base := base) T
  refine ⟨_, fd, T.glo__law_picked, F.kp, F.bindsN fun _ _ _ _ _ _ us hl => match us, hl with | [_, _, _], _ => rfl, ?_⟩
  refine F.ok sc__law_picked (fun vs H Q E h => ?_) (fun cdv A outer s H vs Q E hr h => ?_)
  · obtain ⟨q, B, p, ns, m, rfl, _⟩ := h
    rfl
  · obtain ⟨q, B, p, ns, m, rfl, hq, hB, npq, hp, h1, h2, h3, k⟩ := h
    refine ⟨_, PSs.nox (pss_cons (ps_set (i := 3) sc__law_picked.nd rfl (Or.inr rfl) (pe_callTy call_list_of (by rfl) T.free_list (by decide +kernel) (pa_cons (pv 1) pa_nil))) (pss_one (ps_ret (pe_lc (own := [("_law_k", 4)]) (g := gName 4) (tt := tYes) (by rfl) sc__law_picked.nd (pi_range1 rfl T.free_range (pa_cons (pv 2) pa_nil)) (blkOk_by (own := [("_law_k", 4)]) (N := ["_law_purse_here", "_law_names_here", "_law_many", "_law_left", "_law_k"]) (sc := defScope s__law_picked) (by decide +kernel)) (fun _ _ _ _ _ => (pg_name (i := 4) sc__law_picked.nd rfl (Or.inl rfl))) (fun _ _ _ _ _ => pts_nil) (fun _ _ _ _ _ => (pe_bmK K PySem.F.plainAttrs_list PySem.F.slot_list_pop PySem.F.type_list_pop mt_popAt (pv 3) (pa_cons (pe_fx F__law_take (hr.mono (by decide)) rfl (pa_cons (pv 0) (pa_cons (pe_callB (call_len_seqK K) (by rfl) T.free_len (by decide +kernel) (pa_cons (pv 3) pa_nil)) pa_nil))) pa_nil))))))), ?_⟩
    refine ⟨_, rfl, p, _, rfl, .inl hp, fun l hl => ?_⟩
    have nlq : l ≠ q := hq.has hl
    have s0 : Same H (upd H l (.lst (ns.map V.str))) := same_upd hl
    have el0 : (upd H l (.lst (ns.map V.str))) l = some (.lst (ns.map V.str)) := upd_same
    have hq0 := hq.mono s0
    generalize upd H l (.lst (ns.map V.str)) = H0 at s0 el0 hq0 ⊢
    refine ⟨_, rfl, m, rfl, ?_, ?_, fun D hD => ?_⟩
    · omega
    · omega
    · have hDl : D ≠ l := fun z => by
        rw [z, el0] at hD
        cases hD
      have nDq : D ≠ q := hq0.has hD
      have hDH : H D = none := by
        cases z : H D with
        | none => rfl
        | some u =>
          rw [s0 _ _ z] at hD
          cases hD
      have f0 : Sm [q] H (upd H0 D (.lst [])) := sm_fresh (Same_sm s0) hDH
      refine lc_it (walk_rng (n := m)) (fun i A => ∃ acc ls : List Str, Sm [q] H A ∧ PurseAt A q (B + i) ∧ A D = some (.lst (acc.map V.str)) ∧ A l = some (.lst (ls.map V.str)) ∧ (acc ++ ls).Perm ns ∧ acc.length = i)
        ⟨[], ns, f0, hq0.put nDq, upd_same, by rw [upd_ne hDl.symm]; exact el0, .refl _, rfl⟩ (fun _ _ _ _ => trivial) (fun i x A A' hi h y => ?_) fun A h => ?_
      · obtain ⟨acc, ls, sA, hqA, eD, el, hpm, la⟩ := h
        obtain ⟨rfl, _⟩ := y
        have hi : i < m := by
          have e : (rngVs m).length = m := by simp [rngVs]
          rw [e] at hi
          exact hi
        have ll := hpm.length_eq
        rw [List.length_append] at ll
        refine ⟨rfl, ?_⟩
        refine iteT (B := True) ?_
        refine ⟨_, rfl, .inl ⟨rfl, _, SqL.of el⟩, _, rfl, _, rfl, l, _, rfl, .inl (SqL.of el), q, B + i, _, rfl, hqA, by omega, ?_, ?_, fun A2 n s2 hq2 n0 n1 => ?_⟩
        · rw [List.length_map]
          omega
        · rw [List.length_map]
          omega
        · obtain ⟨k1, rfl⟩ := Int.eq_ofNat_of_zero_le n0
          rw [List.length_map] at n1
          have hk : k1 < ls.length := by omega
          have el2 := s2 l _ (fun y => nlq (List.mem_singleton.mp y)) el
          have eD2 := s2 D _ (fun y => nDq (List.mem_singleton.mp y)) eD
          refine ⟨l, _, (k1 : Int), k1, .str ls[k1], rfl, rfl, el2, by omega, by omega, ?_, by rw [List.getElem?_map, List.getElem?_eq_getElem hk]; rfl, ?_⟩
          · refine (ixN_seq ?_).1
            unfold ixN
            rw [List.length_map, if_pos (by omega), if_pos (by omega)]
            rfl
          · refine ⟨_, by rw [upd_ne hDl]; exact eD2, ?_, acc ++ [ls[k1]], ls.eraseIdx k1, ?_, ?_, ?_, ?_, ?_, ?_⟩
            · rw [List.length_map]
              exact Nat.lt_of_lt_of_le (show acc.length < 13 by omega) (by decide)
            · exact sm_fresh (sm_fresh (sA.trans s2) (by
                cases z : H l with
                | none => rfl
                | some u =>
                  rw [z] at hl
                  cases hl)) hDH
            · exact (hq2.put nlq).put nDq
            · rw [upd_same, List.map_append]
              rfl
            · rw [upd_ne hDl.symm, upd_same, map_erase]
            · refine List.Perm.trans ?_ hpm
              rw [List.append_assoc]
              exact List.Perm.append_left _ (erase_perm hk)
            · rw [List.length_append, la]
              rfl
      · obtain ⟨acc, ls, sA, hqA, eD, el, hpm, la⟩ := h
        have e : (rngVs m).length = m := by simp [rngVs]
        rw [e] at hqA la
        exact k D A acc ls sA hqA hDH eD hpm la
end
end Bx
set_option Elab.async false
set_option linter.all false
set_option maxRecDepth 100000
set_option maxHeartbeats 1000000
/-! BxW3: the law's words. -/
namespace Bx
open PySem PySem.Spec PyProof.Rows L2
theorem ord_perm : ∀ o : Fin 6, [((oAt o 0).val : Int), ((oAt o 1).val : Int), ((oAt o 2).val : Int)].Perm [0, 1, 2] := by decide +kernel
section
variable {P : Program} {w : World} {K : PySem.W.Frag} {mg : Str → Option Value} {base : Heap}
theorem sc__law_is_whole : FnScope ["_law_thing", "_law_low", "_law_high"] ["_law_thing", "_law_low", "_law_high"] (defScope s__law_is_whole) := ⟨rfl, rfl, rfl, by decide +kernel, rfl, by decide +kernel, by decide +kernel⟩
theorem F__law_is_whole (T : Env w K mg) : Fx P w K mg base "_law_is_whole" 1 ["_law_thing", "_law_low", "_law_high"] spIsWhole := by
  obtain ⟨fd, F⟩ := T.d__law_is_whole
  refine ⟨_, fd, T.glo__law_is_whole, F.kp, F.bindsN fun _ _ _ _ _ _ us hl => match us, hl with | [_, _, _], _ => rfl, ?_⟩
  refine F.ok sc__law_is_whole (fun vs H Q E h => ?_) (fun cdv A outer s H vs Q E hr h => ?_)
  · obtain ⟨i, lo, hi, rfl, _⟩ := h
    rfl
  · obtain ⟨i, lo, hi, rfl, k⟩ := h
    refine ⟨_, PSs.nox (pss_one (ps_ret (pe_and (pe_callB call_isi (by rfl) T.free_isinstance (by decide +kernel) (pa_cons (pv 0) (pa_cons (pe_bltn (v := .ty "int") (u := .type "int") (by rfl) T.free_int (by decide +kernel) rfl) pa_nil))) (pe_and (pe_not (pe_callB call_isi (by rfl) T.free_isinstance (by decide +kernel) (pa_cons (pv 0) (pa_cons (pe_bltn (v := .ty "bool") (u := .type "bool") (by rfl) T.free_bool (by decide +kernel) rfl) pa_nil)))) (pe_one (pe_chain op_le op_le (pv 1) (pv 0) (pv 2))))))), ?_⟩
    refine ⟨_, rfl, _, _, .type "int", .type "int", true, rfl, .ty _, .base (.int _), kit_ty (by decide +kernel), ?_⟩
    refine ⟨_, rfl, iteT ⟨_, rfl, _, _, .type "int", .type "bool", false, rfl, .ty _, .base (.int _), kit_ty (by decide +kernel), ?_⟩⟩
    refine ⟨_, rfl, _, rfl, iteT (B := Q (.bl false) H) ?_⟩
    refine ⟨_, rfl, _, rfl, _, _, rfl, rfl, _, rfl, ?_⟩
    cases h1 : decide (lo ≤ i) with
    | false =>
      rw [h1] at k
      exact iteF k
    | true =>
      rw [h1] at k
      exact iteT ⟨_, rfl, _, _, rfl, rfl, k⟩
def spLawIsOrder (K : PySem.W.Frag) : Sp := fun vs H Q _ => ∃ (v : V) (o : Fin 6), vs = [v] ∧ OrdAt K H v o ∧ ∀ H', Same H H' → Q (.bl true) H'
theorem sc__law_is_order : FnScope ["_law_thing", "_law_number"] ["_law_thing"] (defScope s__law_is_order) := ⟨rfl, rfl, rfl, by decide +kernel, rfl, by decide +kernel, by decide +kernel⟩
theorem F__law_is_order (T : Env w K mg) : Fx P w K mg base "_law_is_order" 2 ["_law_thing"] (spLawIsOrder K) := by
  obtain ⟨fd, F⟩ := T.d__law_is_order
  have F__law_is_whole := F__law_is_whole (P := P) (base := base) T
  refine ⟨_, fd, T.glo__law_is_order, F.kp, F.bindsN fun _ _ _ _ _ _ us hl => match us, hl with | [_], _ => rfl, ?_⟩
  refine F.ok sc__law_is_order (fun vs H Q E h => ?_) (fun cdv A outer s H vs Q E hr h => ?_)
  · obtain ⟨v, o, rfl, _⟩ := h
    rfl
  · obtain ⟨v, o, rfl, hv, k⟩ := h
    refine ⟨_, PSs.nox (pss_cons (ps_if (PW.pt (pw_or (pt_not (pt_val (pe_callB call_isi (by rfl) T.free_isinstance (by decide +kernel) (pa_cons (pv 0) (pa_cons (pe_bltn (v := .ty "tuple") (u := .type "tuple") (by rfl) T.free_tuple (by decide +kernel) rfl) pa_nil))))) (pw_or1 (pt_cmpR op_ne (pe_callB call_len_seq (by rfl) T.free_len (by decide +kernel) (pa_cons (pv 0) pa_nil)) pe_int (nomark _))))) (pss_one (ps_ret pe_bl)) pss_nil) (pss_cons (ps_if (pt_cmpR (op_neD hr.units) (pe_lc (own := [("_law_number", 1)]) (g := gName 1)  (by rfl) sc__law_is_order.nd (pi_tup (pv 0)) (blkOk_by (own := [("_law_number", 1)]) (N := ["_law_thing", "_law_number"]) (sc := defScope s__law_is_order) (by decide +kernel)) (fun _ _ _ _ _ => (pg_name (i := 1) sc__law_is_order.nd rfl (Or.inl rfl))) (fun _ _ _ _ _ => pts_one (pt_not (pt_val (pe_fx F__law_is_whole (hr.mono (by decide)) rfl (pa_cons (pv 1) (pa_cons pe_int (pa_cons pe_int pa_nil))))))) (fun _ _ _ _ _ => (pv 1))) (pe_lst pa_nil) (nomark _)) (pss_one (ps_ret pe_bl)) pss_nil) (pss_one (ps_ret (pe_cmpR (op_eqD hr.units) (pe_callB cr_sortTI (by rfl) T.free_sorted (by decide +kernel) (pa_cons (pv 0) pa_nil)) (pe_lst (pa_cons pe_int (pa_cons pe_int (pa_cons pe_int pa_nil)))) (nomark _)))))), ?_⟩
    obtain ⟨p, rfl, hp⟩ := hv
    refine ⟨_, rfl, _, _, .type "tuple", .type "tuple", true, rfl, .ty _, ty_tup hp, kit_ty (by decide +kernel), _, rfl, iteF ?_⟩
    refine ⟨_, rfl, p, _, rfl, .inr hp, rfl, _, rfl, ?_⟩
    refine iteF ⟨_, rfl, p, rfl, ⟨_, hp⟩, fun D hD => lc_filt (xs := oV o) walk_tup (by show 1 < 2; decide) (fun A s => Same_tup s hp) hD (by show 3 ≤ sizeLine; decide) (fun _ => false) (fun j x A ex sA Kb kb => ?_) fun A sA eA => ?_⟩
    · have e1 : ∃ z : Int, x = .int z ∧ 0 ≤ z ∧ z ≤ 2 := by
        have b := fun k => (oAt o k).isLt
        have hj : j < 3 := (List.getElem?_eq_some_iff.mp ex).1
        match j, hj, ex with
        | 0, _, ex => exact ⟨_, (Option.some.inj ex).symm, by omega, by have := b 0; omega⟩
        | 1, _, ex => exact ⟨_, (Option.some.inj ex).symm, by omega, by have := b 1; omega⟩
        | 2, _, ex => exact ⟨_, (Option.some.inj ex).symm, by omega, by have := b 2; omega⟩
      obtain ⟨z, rfl, z0, z2⟩ := e1
      refine ⟨_, rfl, z, 0, 2, rfl, ?_⟩
      rw [decide_eq_true z0, decide_eq_true z2]
      exact ⟨_, rfl, kb A (Same.refl _)⟩
    · have e0 : pick (fun _ => false) 0 (oV o) = [] := rfl
      rw [e0] at eA
      refine ⟨Nat.zero_le _, fun l0 hl0 => ?_⟩
      have s1 : Same A (upd A l0 (.lst [])) := same_upd hl0
      refine ⟨.list [], .list [], .lst (SqL.of (s1 _ _ eA)) .nil, .lst (SqL.of upd_same) .nil, by decide, by decide, _, rfl, iteF ?_⟩
      have hp2 := Same_tup (sA.trans s1) hp
      refine ⟨_, rfl, p, [((oAt o 0).val : Int), ((oAt o 1).val : Int), ((oAt o 2).val : Int)], rfl, hp2, (by show 3 < 64; decide), fun ns' p1 hperm hsort hp1 => ?_⟩
      have hpm : ns'.Perm [0, 1, 2] := hperm.trans (ord_perm o)
      have en : ns' = [0, 1, 2] := List.Perm.eq_of_pairwise (le := (· ≤ ·)) (fun a b _ _ h1 h2 => Int.le_antisymm h1 h2) hsort (by decide) hpm
      subst en
      refine ⟨(by show 3 ≤ sizeLine; decide), fun l1 hl1 => ?_⟩
      have s2 := same_upd (u := .lst [V.int 0, V.int 1, V.int 2]) hp1
      have s3 := same_upd (u := .lst [V.int 0, V.int 1, V.int 2]) hl1
      refine ⟨.list [.int 0, .int 1, .int 2], .list [.int 0, .int 1, .int 2], .lst (SqL.of (s3 _ _ upd_same)) (.cons (.int 0) (.cons (.int 1) (.cons (.int 2) .nil))), .lst (SqL.of upd_same) (.cons (.int 0) (.cons (.int 1) (.cons (.int 2) .nil))), by decide, by decide, ?_⟩
      exact k _ (sA.trans (s1.trans (s2.trans s3)))
end
end Bx
set_option Elab.async false
set_option linter.all false
set_option maxRecDepth 100000
set_option maxHeartbeats 1000000
/-! BxW4: held, span, volume. -/
namespace Bx
open PySem PySem.Spec PyProof.Rows L2
section
variable (K : PySem.W.Frag) (H : Hp)
/-- a list of three whole numbers -/
def L3At (v : V) (t : T3) : Prop := ∃ r, v = .ref r ∧ H r = some (.lst t.v)
abbrev L3sAt (vs : List V) (ts : List T3) : Prop := Paired (L3At H) vs ts
end
theorem L3At.mono {H H' : Hp} (S : Same H H') {v : V} {t : T3} (h : L3At H v t) : L3At H' v t := by
  obtain ⟨r, h1, h2⟩ := h
  exact ⟨r, h1, S _ _ h2⟩
section
variable {P : Program} {w : World} {K : PySem.W.Frag} {mg : Str → Option Value} {base : Heap}
def spHeld : Sp := fun vs H Q _ => ∃ v st us ts t, vs = [v, .ref st] ∧ L3At H v t ∧ H st = some (.lst us) ∧ L3sAt H us ts ∧ Q (.bl (ts.any fun s => le3 s t)) H
theorem sc__law_held : FnScope ["_law_falling", "_law_stored", "_law_own"] ["_law_falling", "_law_stored"] (defScope s__law_held) := ⟨rfl, rfl, rfl, by decide +kernel, rfl, by decide +kernel, by decide +kernel⟩
theorem F__law_held (T : Env w K mg) : Fx P w K mg base "_law_held" 1 ["_law_falling", "_law_stored"] spHeld := by
  obtain ⟨fd, F⟩ := T.d__law_held
  refine ⟨_, fd, T.glo__law_held, F.kp, F.bindsN fun _ _ _ _ _ _ us hl => match us, hl with | [_, _], _ => rfl, ?_⟩
  refine F.ok sc__law_held (fun vs H Q E h => ?_) (fun cdv A outer s H vs Q E hr h => ?_)
  · obtain ⟨v, st, us, ts, t, rfl, _⟩ := h
    rfl
  · obtain ⟨v, st, us, ts, t, rfl, ht, hst, hus, k⟩ := h
    refine ⟨_, PSs.nox (pss_cons (ps_for PassesOwn.never rfl (pi_list (pv 1)) (pg_name (i := 2) sc__law_held.nd rfl (Or.inl rfl)) (pss_one (ps_if (PW.pt (pw_and (pt_cmpR op_le (pe_ix ix_list (pv 2) pe_int (fun _ _ => rfl)) (pe_ix ix_list (pv 0) pe_int (fun _ _ => rfl)) (nomark _)) (pw_and (pt_cmpR op_le (pe_ix ix_list (pv 2) pe_int (fun _ _ => rfl)) (pe_ix ix_list (pv 0) pe_int (fun _ _ => rfl)) (nomark _)) (pw_and1 (pt_cmpR op_le (pe_ix ix_list (pv 2) pe_int (fun _ _ => rfl)) (pe_ix ix_list (pv 0) pe_int (fun _ _ => rfl)) (nomark _)))))) (pss_one (ps_ret pe_bl)) pss_nil))) (pss_one (ps_ret pe_bl))), ?_⟩
    obtain ⟨f, rfl, hf⟩ := ht
    have lem := hus.length
    refine ⟨_, rfl, st, rfl, ⟨_, SqL.of hst⟩, for_it (walk_list (xs := us)) (fun i σ H' => H' = H ∧ (∃ u, σ = [some (.ref f), some (.ref st), u]) ∧ (ts.take i).any (fun s => le3 s t) = false) ⟨rfl, ⟨_, rfl⟩, rfl⟩ (fun i σ H' _ h => by rw [h.1]; exact SqL.of hst) (fun i x σ A B hi h y => ?_) fun σ A h => ?_⟩
    · obtain ⟨rfl, ⟨u, rfl⟩, hn⟩ := h
      obtain ⟨rfl, ex⟩ := y
      obtain ⟨s3, es, r, rfl, hr3⟩ := Paired.at hus ex
      have a0 : atI (T3.v s3) 0 = some (.int s3.x) := rfl
      have a1 : atI (T3.v s3) 1 = some (.int s3.y) := rfl
      have a2 : atI (T3.v s3) 2 = some (.int s3.z) := rfl
      have b0 : atI (T3.v t) 0 = some (.int t.x) := rfl
      have b1 : atI (T3.v t) 1 = some (.int t.y) := rfl
      have b2 : atI (T3.v t) 2 = some (.int t.z) := rfl
      have go : le3 s3 t = false → ((ts.take (i + 1)).any fun s => le3 s t) = false := fun z => by
        rw [List.take_add_one, es, List.any_append, hn, Option.toList_some, List.any_cons, List.any_nil, z]
        rfl
      have yes : le3 s3 t = true → Q (.bl true) B := fun z => by
        have : (ts.any fun s => le3 s t) = true := List.any_eq_true.mpr ⟨s3, List.mem_of_getElem? es, z⟩
        rw [this] at k
        exact k
      refine ⟨_, rfl, r, _, 0, _, rfl, rfl, SqL.of hr3, a0, _, rfl, f, _, 0, _, rfl, rfl, SqL.of hf, b0, _, _, rfl, rfl, _, rfl, ite2 (fun h0 => ?_) (fun h0 => ?_)⟩
      · refine ⟨_, rfl, r, _, 1, _, rfl, rfl, SqL.of hr3, a1, _, rfl, f, _, 1, _, rfl, rfl, SqL.of hf, b1, _, _, rfl, rfl, _, rfl, ite2 (fun h1 => ?_) (fun h1 => ?_)⟩
        · refine ⟨_, rfl, r, _, 2, _, rfl, rfl, SqL.of hr3, a2, _, rfl, f, _, 2, _, rfl, rfl, SqL.of hf, b2, _, _, rfl, rfl, _, rfl, ite2 (fun h2 => ?_) (fun h2 => ?_)⟩
          · exact yes (by unfold le3; rw [h0, h1, h2]; rfl)
          · exact ⟨rfl, ⟨_, rfl⟩, go (by unfold le3; rw [h0, h1, Bool.eq_false_iff.mpr h2]; rfl)⟩
        · exact iteF ⟨rfl, ⟨_, rfl⟩, go (by unfold le3; rw [h0, Bool.eq_false_iff.mpr h1]; rfl)⟩
      · exact iteF ⟨rfl, ⟨_, rfl⟩, go (by unfold le3; rw [Bool.eq_false_iff.mpr h0]; rfl)⟩
    · obtain ⟨rfl, ⟨u, rfl⟩, hn⟩ := h
      rw [lem, List.take_length] at hn
      rw [hn] at k
      exact k
end
end Bx
set_option Elab.async false
set_option linter.all false
set_option maxRecDepth 100000
set_option maxHeartbeats 1000000
/-! BxW5: books, span, volume. -/
namespace Bx
open PySem PySem.Spec PyProof.Rows L2
/-- the sides by names: S n for each of ns -/
def BookEnt (H : Hp) (S : Str → T3) (kv : Key × V) (n : Str) : Prop := kv.1 = Sum.inr n ∧ L3At H kv.2 (S n)
def BookAt (H : Hp) (v : V) (S : Str → T3) (ns : List Str) : Prop := ∃ d kvs, v = .ref d ∧ H d = some (.dK kvs) ∧ Paired (BookEnt H S) kvs ns
theorem BookAt.mono {H H' : Hp} (s : Same H H') {v : V} {S : Str → T3} {ns : List Str} (h : BookAt H v S ns) : BookAt H' v S ns := by
  obtain ⟨d, kvs, h1, h2, h3⟩ := h
  exact ⟨d, kvs, h1, s _ _ h2, L2.Paired.mapP h3 fun _ _ z => ⟨z.1, z.2.mono s⟩⟩
theorem book_get {H : Hp} {S : Str → T3} {n : Str} : ∀ {kvs : List (Key × V)} {ns : List Str}, Paired (BookEnt H S) kvs ns → n ∈ ns → ∃ v, valV kvs (Sum.inr n) = some v ∧ L3At H v (S n)
  | _, _, .nil, h => by simp at h
  | kv :: kvs, m :: ns, .cons r t, h => by
    by_cases e : m = n
    · subst e
      exact ⟨kv.2, valV_pos r.1, r.2⟩
    · rcases List.mem_cons.mp h with z | z
      · exact absurd z.symm e
      · obtain ⟨v, h1, h2⟩ := book_get t z
        exact ⟨v, by rw [valV_neg fun q => e (by rw [r.1] at q; exact Sum.inr.inj q), h1], h2⟩
theorem at3 (t : T3) (k : Fin 3) : atI t.v (k.val : Int) = some (.int (t.get k)) := atI_nat (by
  match k with
  | 0 => rfl
  | 1 => rfl
  | 2 => rfl)
theorem beside_set (a b : T3) (k : Fin 3) : [V.int (max (a.get 0) (b.get 0)), V.int (max (a.get 1) (b.get 1)), V.int (max (a.get 2) (b.get 2))].set k.val (V.int (a.get k + b.get k)) = (beside a b k).v := by
  match k with
  | 0 => rfl
  | 1 => rfl
  | 2 => rfl
theorem ix3 : ∀ k : Fin 3, ixN 3 (k.val : Int) = some k.val := by decide
section
variable {P : Program} {w : World} {K : PySem.W.Frag} {mg : Str → Option Value} {base : Heap}
def spSpan (K : PySem.W.Frag) (d : Nat) : Sp := fun vs H Q _ => ∃ b S ns v L, vs = [b, v] ∧ BookAt H b S ns ∧ LayAt K H v L ∧ L.depth ≤ d ∧ (∀ n ∈ L.names, n ∈ ns) ∧ ∀ r H', Same H H' → H r = none → H' r = some (.lst (L.span S).v) → Q (.ref r) H'
theorem sc__law_span : FnScope ["_law_book_here", "_law_paper", "_law_sides", "_law_first", "_law_second", "_law_found", "_law_number", "_law_k"] ["_law_book_here", "_law_paper"] (defScope s__law_span) := ⟨rfl, rfl, rfl, by decide +kernel, rfl, by decide +kernel, by decide +kernel⟩
theorem ok_law_span (T : Env w K mg) (d k : Nat) (F2 : ∀ d', d = d' + 1 → Fx P w K mg base "_law_span" k ["_law_book_here", "_law_paper"] (spSpan K d')) : Fx P w K mg base "_law_span" (k + 1) ["_law_book_here", "_law_paper"] (spSpan K d) := by
  obtain ⟨fd, F⟩ := T.d__law_span
  refine ⟨_, fd, T.glo__law_span, F.kp, F.bindsN fun _ _ _ _ _ _ us hl => match us, hl with | [_, _], _ => rfl, ?_⟩
  refine F.ok sc__law_span (fun vs H Q E h => ?_) (fun cdv A outer s H vs Q E hr h => ?_)
  · obtain ⟨b, S, ns, v, L, rfl, _⟩ := h
    rfl
  · obtain ⟨b, S, ns, v, L, rfl, hb, hv, hd, hn, k0⟩ := h
    cases L with
    | one n o =>
      refine ⟨_, PSs.nox (pss_cons (ps_if (pt_cmpR op_eq (pe_ix ix_tup (pv 1) pe_int (fun _ _ => rfl)) pe_str (nomark _)) (pss_cons (ps_set (i := 2) sc__law_span.nd rfl (Or.inr rfl) (pe_dget (hu_of hr) (pv 0) (pe_ix ix_tup (pv 1) pe_int (fun _ _ => rfl)) (fun _ _ => rfl))) (pss_one (ps_ret (pe_lc (own := [("_law_number", 6)]) (g := gName 6) (tt := tYes) (by rfl) sc__law_span.nd (pi_tup (pe_ix ix_tup (pv 1) pe_int (fun _ _ => rfl))) (blkOk_by (own := [("_law_number", 6)]) (N := ["_law_book_here", "_law_paper", "_law_sides", "_law_first", "_law_second", "_law_found", "_law_number", "_law_k"]) (sc := defScope s__law_span) (by decide +kernel)) (fun _ _ _ _ _ => (pg_name (i := 6) sc__law_span.nd rfl (Or.inl rfl))) (fun _ _ _ _ _ => pts_nil) (fun _ _ _ _ _ => (pe_ix (ix_listK K) (pv 2) (pv 6) (fun _ _ => rfl))))))) pss_nil) (pss_cons ps_never (pss_cons ps_never (pss_cons (ps_setLc (i := 5) (own := [("_law_k", 7)]) (g := gName 7) (tt := tYes) (by rfl) sc__law_span.nd rfl rfl (sw_true rfl rfl rfl (by decide +kernel)) (pi_range1 rfl T.free_range (pa_cons pe_int pa_nil)) (blkOk_by (own := [("_law_k", 7)]) (N := ["_law_book_here", "_law_paper", "_law_sides", "_law_first", "_law_second", "_law_found", "_law_number", "_law_k"]) (sc := defScope s__law_span) (by decide +kernel)) (fun _ _ _ _ _ => (pg_name (i := 7) sc__law_span.nd rfl (Or.inl rfl))) (fun _ _ _ _ _ => pts_nil) (fun _ _ _ _ _ => (pe_callB (call_max2 rfl) (by rfl) T.free_max (by decide +kernel) (pa_cons (pe_ix (ix_listK K) (pv 3) (pv 7) (fun _ _ => rfl)) (pa_cons (pe_ix (ix_listK K) (pv 4) (pv 7) (fun _ _ => rfl)) pa_nil))))) (pss_cons (ps_asg (pe_op op_add (pe_ix ix_list (pv 3) (pe_ix ix_tup (pv 1) pe_int (fun _ _ => rfl)) (fun _ _ => rfl)) (pe_ix ix_list (pv 4) (pe_ix ix_tup (pv 1) pe_int (fun _ _ => rfl)) (fun _ _ => rfl))) (pg_sub (pv 5) (pe_ix ix_tup (pv 1) pe_int (fun _ _ => rfl)) set_list)) (pss_one (ps_ret (pv 5)))))))), ?_⟩
      obtain ⟨q, ⟨p, rfl, hp⟩, ho⟩ := id hv
      refine ⟨_, rfl, p, _, _, _, rfl, rfl, hp, rfl, rfl, _, rfl, iteT ?_⟩
      obtain ⟨d0, kvs, rfl, hd0, hkvs⟩ := hb
      obtain ⟨v2, ev, r0, rfl, hr0⟩ := book_get hkvs (hn n (List.mem_cons_self ..))
      obtain ⟨oq, rfl, hoq⟩ := id ho
      have gd : DGet H d0 (.str n) (some (.ref r0)) := by
        have := DGet.k (k := Sum.inr n) hd0
        rw [ev] at this
        exact this
      refine ⟨_, rfl, _, rfl, p, _, _, _, rfl, rfl, hp, rfl, d0, .ref r0, rfl, gd, ?_⟩
      refine ⟨_, rfl, p, _, _, _, rfl, rfl, hp, rfl, oq, rfl, ⟨_, hoq⟩, fun D hD => lc_src (xs := oV o) walk_tup (fun A s => Same_tup s hoq) hD (by show 3 ≤ sizeLine; decide) (fun j y _ => ∀ k : Fin 3, k.val = j → y = .int (((S n).turn o).get k)) (fun _ _ _ _ _ z => z) (fun j x A ex sA _ Kt kt => ?_) fun A acc sA eD la hR => ?_⟩
      · have hj : j < 3 := (List.getElem?_eq_some_iff.mp ex).1
        obtain ⟨k1, rfl, hx⟩ : ∃ k1 : Fin 3, k1.val = j ∧ x = .int ((oAt o k1).val : Int) := by
          match j, hj, ex with
          | 0, _, ex => exact ⟨0, rfl, (Option.some.inj ex).symm⟩
          | 1, _, ex => exact ⟨1, rfl, (Option.some.inj ex).symm⟩
          | 2, _, ex => exact ⟨2, rfl, (Option.some.inj ex).symm⟩
        subst hx
        have at1 : atI ((S n).v) ((oAt o k1).val : Int) = some (.int ((S n).get (oAt o k1))) := atI_nat (by
          match oAt o k1 with
          | 0 => rfl
          | 1 => rfl
          | 2 => rfl)
        exact ⟨_, rfl, _, rfl, r0, _, _, _, rfl, rfl, SqL.of (sA _ _ hr0), at1, kt _ _ (Same.refl _) fun k e => by rw [get_turn, Fin.ext e]⟩
      · obtain ⟨u0, u1, u2, rfl⟩ := len3 (show acc.length = 3 from la)
        have e0 := hR 0 _ rfl 0 rfl
        have e1 := hR 1 _ rfl 1 rfl
        have e2 := hR 2 _ rfl 2 rfl
        subst e0 e1 e2
        have hDH : H D = none := hD
        exact k0 D A sA hDH eD
    | by_ i L M =>
      have hd2 : max L.depth M.depth + 1 ≤ d := hd
      obtain ⟨d', rfl⟩ : ∃ d', d = d' + 1 := ⟨d - 1, by omega⟩
      have F__law_span := F2 d' rfl
      refine ⟨_, PSs.nox (pss_cons (ps_if (pt_cmpR op_eq (pe_ix ix_tup (pv 1) pe_int (fun _ _ => rfl)) pe_str (nomark _)) (pss_cons (ps_set (i := 2) sc__law_span.nd rfl (Or.inr rfl) (pe_dget (hu_of hr) (pv 0) (pe_ix ix_tup (pv 1) pe_int (fun _ _ => rfl)) (fun _ _ => rfl))) (pss_one (ps_ret (pe_lc (own := [("_law_number", 6)]) (g := gName 6) (tt := tYes) (by rfl) sc__law_span.nd (pi_tup (pe_ix ix_tup (pv 1) pe_int (fun _ _ => rfl))) (blkOk_by (own := [("_law_number", 6)]) (N := ["_law_book_here", "_law_paper", "_law_sides", "_law_first", "_law_second", "_law_found", "_law_number", "_law_k"]) (sc := defScope s__law_span) (by decide +kernel)) (fun _ _ _ _ _ => (pg_name (i := 6) sc__law_span.nd rfl (Or.inl rfl))) (fun _ _ _ _ _ => pts_nil) (fun _ _ _ _ _ => (pe_ix (ix_listK K) (pv 2) (pv 6) (fun _ _ => rfl))))))) pss_nil) (pss_cons (ps_set (i := 3) sc__law_span.nd rfl (Or.inr rfl) (pe_fx F__law_span (hr.mono (by omega)) rfl (pa_cons (pv 0) (pa_cons (pe_ix ix_tup (pv 1) pe_int (fun _ _ => rfl)) pa_nil)))) (pss_cons (ps_set (i := 4) sc__law_span.nd rfl (Or.inr rfl) (pe_fx F__law_span (hr.mono (by omega)) rfl (pa_cons (pv 0) (pa_cons (pe_ix ix_tup (pv 1) pe_int (fun _ _ => rfl)) pa_nil)))) (pss_cons (ps_setLc (i := 5) (own := [("_law_k", 7)]) (g := gName 7) (tt := tYes) (by rfl) sc__law_span.nd rfl rfl (sw_true rfl rfl rfl (by decide +kernel)) (pi_range1 rfl T.free_range (pa_cons pe_int pa_nil)) (blkOk_by (own := [("_law_k", 7)]) (N := ["_law_book_here", "_law_paper", "_law_sides", "_law_first", "_law_second", "_law_found", "_law_number", "_law_k"]) (sc := defScope s__law_span) (by decide +kernel)) (fun _ _ _ _ _ => (pg_name (i := 7) sc__law_span.nd rfl (Or.inl rfl))) (fun _ _ _ _ _ => pts_nil) (fun _ _ _ _ _ => (pe_callB (call_max2 rfl) (by rfl) T.free_max (by decide +kernel) (pa_cons (pe_ix (ix_listK K) (pv 3) (pv 7) (fun _ _ => rfl)) (pa_cons (pe_ix (ix_listK K) (pv 4) (pv 7) (fun _ _ => rfl)) pa_nil))))) (pss_cons (ps_asg (pe_op op_add (pe_ix ix_list (pv 3) (pe_ix ix_tup (pv 1) pe_int (fun _ _ => rfl)) (fun _ _ => rfl)) (pe_ix ix_list (pv 4) (pe_ix ix_tup (pv 1) pe_int (fun _ _ => rfl)) (fun _ _ => rfl))) (pg_sub (pv 5) (pe_ix ix_tup (pv 1) pe_int (fun _ _ => rfl)) set_list)) (pss_one (ps_ret (pv 5)))))))), ?_⟩
      obtain ⟨va, vb, ⟨p, rfl, hp⟩, ha, hb2⟩ := id hv
      refine ⟨_, rfl, p, _, _, _, rfl, rfl, hp, rfl, rfl, _, rfl, iteF ?_⟩
      refine ⟨_, rfl, _, rfl, p, _, _, _, rfl, rfl, hp, rfl, b, S, ns, va, L, rfl, hb, ha, by omega, fun n h => hn n (List.mem_append_left _ h), fun r1 H1 s1 n1 e1 => ?_⟩
      refine ⟨_, rfl, _, rfl, p, _, _, _, rfl, rfl, Same_tup s1 hp, rfl, b, S, ns, vb, M, rfl, hb.mono s1, hb2.mono s1, by omega, fun n h => hn n (List.mem_append_right _ h), fun r2 H2 s2 n2 e2 => ?_⟩
      have s12 := s1.trans s2
      have e1' := s2 _ _ e1
      refine ⟨3, rfl, by decide, by decide, fun D hD => lc_src (walk_rng (n := 3)) (fun _ _ => trivial) hD (show 3 ≤ sizeLine by decide) (fun j y _ => ∀ k : Fin 3, k.val = j → y = .int (max ((L.span S).get k) ((M.span S).get k))) (fun _ _ _ _ _ z => z) (fun j x A ex sA _ Kt kt => ?_) fun A acc sA eD la hR => ?_⟩
      · have hj : j < 3 := (List.getElem?_eq_some_iff.mp ex).1
        obtain ⟨k1, rfl, hx⟩ : ∃ k1 : Fin 3, k1.val = j ∧ x = .int (k1.val : Int) := by
          match j, hj, ex with
          | 0, _, ex => exact ⟨0, rfl, (Option.some.inj ex).symm⟩
          | 1, _, ex => exact ⟨1, rfl, (Option.some.inj ex).symm⟩
          | 2, _, ex => exact ⟨2, rfl, (Option.some.inj ex).symm⟩
        subst hx
        refine ⟨_, rfl, _, rfl, r1, _, _, _, rfl, rfl, SqL.of (sA _ _ e1'), at3 _ _, _, rfl, _, rfl, r2, _, _, _, rfl, rfl, SqL.of (sA _ _ e2), at3 _ _, _, _, rfl, kt _ _ (Same.refl _) fun k e => ?_⟩
        rw [Fin.ext e]
        congr 1
        split <;> omega
      · obtain ⟨u0, u1, u2, rfl⟩ := len3 (show acc.length = 3 from la)
        have f0 := hR 0 _ rfl 0 rfl
        have f1 := hR 1 _ rfl 1 rfl
        have f2 := hR 2 _ rfl 2 rfl
        subst f0 f1 f2
        have hDH : H D = none := by
          cases z : H D with
          | none => rfl
          | some u =>
            rw [s12 _ _ z] at hD
            cases hD
        have hpA := Same_tup (s12.trans sA) hp
        refine ⟨_, rfl, _, rfl, p, _, _, _, rfl, rfl, hpA, rfl, r1, _, _, _, rfl, rfl, SqL.of (sA _ _ e1'), at3 _ i, _, rfl, _, rfl, p, _, _, _, rfl, rfl, hpA, rfl, r2, _, _, _, rfl, rfl, SqL.of (sA _ _ e2), at3 _ i, _, _, rfl, rfl, _, rfl, _, rfl, p, _, _, _, rfl, rfl, hpA, rfl, D, _, _, i.val, rfl, rfl, eD, ix3 i, ?_⟩
        refine ⟨_, rfl, k0 D _ ?_ hDH ?_⟩
        · intro c o z
          rw [upd_ne fun e => by rw [e, hDH] at z; cases z]
          exact (s12.trans sA) _ _ z
        · rw [upd_same]
          exact congrArg (fun l => some (HO.lst l)) (beside_set (L.span S) (M.span S) i)
theorem F__law_span (T : Env w K mg) : ∀ d, Fx P w K mg base "_law_span" (d + 1) ["_law_book_here", "_law_paper"] (spSpan K d)
  | 0 => ok_law_span T 0 0 fun d' e => absurd e (by omega)
  | d + 1 => ok_law_span T (d + 1) (d + 1) fun d' e => by
    obtain rfl : d' = d := by omega
    exact F__law_span T d'
def spLawVolume (K : PySem.W.Frag) (d : Nat) : Sp := fun vs H Q _ => ∃ b S ns v L, vs = [b, v] ∧ BookAt H b S ns ∧ LayAt K H v L ∧ L.depth ≤ d ∧ (∀ n ∈ L.names, n ∈ ns) ∧ okT (L.span S) ∧ ∀ H', Same H H' → Q (.int (L.span S).vol) H'
theorem sc__law_volume : FnScope ["_law_book_here", "_law_paper", "_law_three_here"] ["_law_book_here", "_law_paper"] (defScope s__law_volume) := ⟨rfl, rfl, rfl, by decide +kernel, rfl, by decide +kernel, by decide +kernel⟩
theorem F__law_volume (T : Env w K mg) (d : Nat) : Fx P w K mg base "_law_volume" (d + 2) ["_law_book_here", "_law_paper"] (spLawVolume K d) := by
  obtain ⟨fd, F⟩ := T.d__law_volume
  have F__law_span := F__law_span (P := P) (base := base) T d
  refine ⟨_, fd, T.glo__law_volume, F.kp, F.bindsN fun _ _ _ _ _ _ us hl => match us, hl with | [_, _], _ => rfl, ?_⟩
  refine F.ok sc__law_volume (fun vs H Q E h => ?_) (fun cdv A outer s H vs Q E hr h => ?_)
  · obtain ⟨b, S, ns, v, L, rfl, _⟩ := h
    rfl
  · obtain ⟨b, S, ns, v, L, rfl, hb, hv, hd, hn, hok, k⟩ := h
    refine ⟨_, PSs.nox (pss_cons (ps_set (i := 2) sc__law_volume.nd rfl (Or.inl rfl) (pe_fx F__law_span (hr.mono (by omega)) rfl (pa_cons (pv 0) (pa_cons (pv 1) pa_nil)))) (pss_one (ps_ret (pe_op op_mul (pe_op op_mul (pe_ix ix_list (pv 2) pe_int (fun _ _ => rfl)) (pe_ix ix_list (pv 2) pe_int (fun _ _ => rfl))) (pe_ix ix_list (pv 2) pe_int (fun _ _ => rfl)))))), ?_⟩
    refine ⟨_, rfl, _, rfl, b, S, ns, v, L, rfl, hb, hv, hd, hn, fun r H1 s1 n1 e1 => ?_⟩
    generalize L.span S = t at *
    have a0 : atI (T3.v t) 0 = some (.int t.x) := rfl
    have a1 : atI (T3.v t) 1 = some (.int t.y) := rfl
    have a2 : atI (T3.v t) 2 = some (.int t.z) := rfl
    obtain ⟨⟨x1, x2⟩, ⟨y1, y2⟩, z1, z2⟩ := hok
    exact ⟨_, rfl, r, _, 0, _, rfl, rfl, SqL.of e1, a0, _, rfl, r, _, 1, _, rfl, rfl, SqL.of e1, a1, _, _, rfl, rfl, .inl ⟨by omega, by omega⟩, _, rfl, r, _, 2, _, rfl, rfl, SqL.of e1, a2, _, _, rfl, rfl, .inr ⟨by omega, by omega⟩, k _ s1⟩
end
end Bx
set_option Elab.async false
set_option linter.all false
set_option maxRecDepth 100000
set_option maxHeartbeats 1000000
/-! BxY1: the law's names. -/
namespace Bx
open PySem PySem.Spec PyProof.Rows L2
/-! ### plain -/
abbrev tx (z : Str) : List Nat := z.cps.toList
theorem tx_len (z : Str) : z.length = (tx z).length := by
  show z.cps.size = z.cps.toList.length
  rw [Array.length_toList]
theorem tx_inj {a b : Str} (h : tx a = tx b) : a = b := by
  obtain ⟨⟨l⟩⟩ := a
  obtain ⟨⟨m⟩⟩ := b
  have : l = m := h
  rw [this]
theorem tx_app (a b : Str) : tx (a ++ b) = tx a ++ tx b := by
  show (a.cps ++ b.cps).toList = _
  rw [Array.toList_append]
theorem cut_lo (z : Str) (n : Nat) : tx (cutS z none (some (n : Int))) = (tx z).take n := by
  show ((((tx z).drop (HT.sIx z.length 0 none)).take (HT.sIx z.length z.length (some (n : Int)) - HT.sIx z.length 0 none)).toArray).toList = _
  rw [HT.sIx_none, HT.sIx_nat, List.drop_zero, Nat.sub_zero, tx_len, List.toList_toArray]
  rw [List.take_eq_take_iff]
  omega
theorem cut_hi (z : Str) (n : Nat) : tx (cutS z (some (n : Int)) none) = (tx z).drop n := by
  show ((((tx z).drop (HT.sIx z.length 0 (some (n : Int)))).take (HT.sIx z.length z.length none - HT.sIx z.length 0 (some (n : Int)))).toArray).toList = _
  rw [HT.sIx_none, HT.sIx_nat, tx_len, List.toList_toArray]
  have h : ((tx z).drop (min n (tx z).length)).length ≤ (tx z).length - min n (tx z).length := by rw [List.length_drop]; exact Nat.le_refl _
  rw [List.take_of_length_le h]
  rcases Nat.le_total n (tx z).length with q | q
  · rw [Nat.min_eq_left q]
  · rw [Nat.min_eq_right q, List.drop_eq_nil_of_le (Nat.le_refl _), List.drop_eq_nil_of_le q]
def lawWords : List Str := ["x", "wall", "rest", "box", "parcel", "in", "none", "alone", "top", "label", "by", "one"]
theorem law_split : Txt.split "x wall rest box parcel in none alone top label by one" " " = lawWords := by decide +kernel
def wordAt (f : Nat) (k : Nat) : Str := lawWords.getD ((f + 5 * k) % 12) Str.empty
theorem word_ok : ∀ f : Fin 26, ((List.range 12).map (wordAt f.val)).Nodup := by decide +kernel
theorem word_name : ∀ x ∈ lawWords, isName x := by unfold isName; decide +kernel
theorem wordAt_name (f k : Nat) : isName (wordAt f k) := word_name _ (by
  unfold wordAt
  have h : (f + 5 * k) % 12 < lawWords.length := Nat.mod_lt _ (by decide)
  rw [List.getD_eq_getElem?_getD, List.getElem?_eq_getElem h]
  exact List.getElem_mem h)
theorem range_nodup {α : Type} {f : Nat → α} {n m : Nat} (h : ((List.range n).map f).Nodup) (k : m ≤ n) : ((List.range m).map f).Nodup := by
  refine h.sublist (List.Sublist.map _ ?_)
  obtain ⟨d, rfl⟩ := Nat.exists_eq_add_of_le k
  rw [List.range_add]
  exact List.sublist_append_left _ _
def IsStem (z : Str) : Prop := (tx z).length = 8 ∧ ∀ c ∈ tx z, c ∈ tx letters
theorem len_mod : ∀ f : Fin 26, ((List.range 8).map fun k => 1 + (f.val + 3 * k) % 8).Nodup := by decide +kernel
theorem let_mod : ∀ f : Fin 26, ((List.range 12).map fun k => (tx letters).getD ((f.val + 7 * k) % 26) 0).Nodup := by decide +kernel
def begAt (z : Str) (f k : Nat) : Str := cutS z none (some ((1 + (f + 3 * k) % 8 : Nat) : Int))
theorem begAt_name {z : Str} (h : IsStem z) (f k : Nat) : isName (begAt z f k) := by
  have h8 : (f + 3 * k) % 8 < 8 := Nat.mod_lt _ (by decide)
  have e := cut_lo z (1 + (f + 3 * k) % 8)
  have l : (begAt z f k).length = 1 + (f + 3 * k) % 8 := by
    rw [tx_len]
    unfold begAt
    rw [e, List.length_take, h.1]
    omega
  refine ⟨by omega, by omega, fun c hc => h.2 c ?_⟩
  have hc : c ∈ tx (begAt z f k) := hc
  unfold begAt at hc
  rw [e] at hc
  exact List.mem_of_mem_take hc
theorem beg_nodup {z : Str} (h : IsStem z) (f : Fin 26) : ((List.range 8).map (begAt z f.val)).Nodup := by
  have key := len_mod f
  have e : (List.range 8).map (fun k => 1 + (f.val + 3 * k) % 8) = ((List.range 8).map (begAt z f.val)).map Str.length := by
    rw [List.map_map]
    refine List.map_congr_left fun k _ => ?_
    show _ = (begAt z f.val k).length
    have h8 : (f.val + 3 * k) % 8 < 8 := Nat.mod_lt _ (by decide)
    rw [tx_len]
    unfold begAt
    rw [cut_lo, List.length_take, h.1]
    omega
  rw [e] at key
  rw [List.nodup_iff_pairwise_ne, List.pairwise_map] at key
  rw [List.nodup_iff_pairwise_ne]
  exact List.Pairwise.imp (fun {x y} h e => h (congrArg Str.length e)) key
def lett (n : Nat) : Str := ⟨#[(tx letters).getD n 0]⟩
def midAt (z : Str) (a f k : Nat) : Str := cutS z none (some (a : Int)) ++ lett ((f + 7 * k) % 26) ++ cutS z (some (a : Int)) none
theorem letters_len : (tx letters).length = 26 := by decide +kernel
theorem lett_mem {n : Nat} (h : n < 26) : (tx letters).getD n 0 ∈ tx letters := by
  have h : n < (tx letters).length := by rw [letters_len]; exact h
  rw [List.getD_eq_getElem?_getD, List.getElem?_eq_getElem h]
  exact List.getElem_mem h
theorem tx_mid (z : Str) (a f k : Nat) : tx (midAt z a f k) = (tx z).take a ++ (tx letters).getD ((f + 7 * k) % 26) 0 :: (tx z).drop a := by
  unfold midAt
  rw [tx_app, tx_app, cut_lo, cut_hi, List.append_assoc]
  rfl
theorem midAt_name {z : Str} (h : (tx z).length ≤ 7) (hc : ∀ c ∈ tx z, c ∈ tx letters) (a f k : Nat) : isName (midAt z a f k) := by
  have e := tx_mid z a f k
  have l : (midAt z a f k).length = (tx z).length + 1 := by
    rw [tx_len, e, List.length_append, List.length_cons, List.length_take, List.length_drop]
    omega
  refine ⟨by omega, by omega, fun c hx => ?_⟩
  have hx : c ∈ tx (midAt z a f k) := hx
  rw [e] at hx
  rcases List.mem_append.mp hx with q | q
  · exact hc c (List.mem_of_mem_take q)
  · rcases List.mem_cons.mp q with q | q
    · rw [q]
      exact lett_mem (Nat.mod_lt _ (by decide))
    · exact hc c (List.mem_of_mem_drop q)
theorem mid_nodup (z : Str) (a : Nat) (f : Fin 26) : ((List.range 12).map (midAt z a f.val)).Nodup := by
  have key := let_mod f
  rw [List.nodup_iff_pairwise_ne, List.pairwise_map] at key ⊢
  refine List.Pairwise.imp (fun {x y} h e => h ?_) key
  have e2 := congrArg tx e
  rw [tx_mid, tx_mid] at e2
  have := List.append_cancel_left e2
  exact (List.cons.inj this).1
theorem join_one : ∀ cs : List Nat, TL.joinL [] (cs.map fun c => [c]) = cs
  | [] => rfl
  | [c] => rfl
  | c :: d :: r => by
    show [c] ++ ([] ++ TL.joinL [] ((d :: r).map fun c => [c])) = c :: d :: r
    rw [join_one (d :: r)]
    rfl
theorem strs_of : ∀ {acc : List V}, (∀ (i : Nat) (y : V), acc[i]? = some y → ∃ c, c ∈ tx letters ∧ y = .str ⟨#[c]⟩) → ∃ cs : List Nat, acc = (cs.map fun c => (⟨#[c]⟩ : Str)).map V.str ∧ ∀ c ∈ cs, c ∈ tx letters
  | [], _ => ⟨[], rfl, fun _ h => by simp at h⟩
  | y :: r, h => by
    obtain ⟨c, hc, e⟩ := h 0 y rfl
    obtain ⟨cs, e2, h2⟩ := strs_of (acc := r) fun i z ez => h (i + 1) z ez
    exact ⟨c :: cs, by rw [e, e2]; rfl, fun d hd => by
      rcases List.mem_cons.mp hd with q | q
      · rw [q]; exact hc
      · exact h2 d q⟩
theorem stem_tx (cs : List Nat) : tx (Txt.join "" (cs.map fun c => (⟨#[c]⟩ : Str))) = cs := by
  rw [TL.join_eq]
  have e := TL.tl_join "" (cs.map fun c => (⟨#[c]⟩ : Str))
  have e0 : TL.tl ("" : Str) = [] := by decide +kernel
  rw [e0, List.map_map] at e
  exact e.trans (join_one cs)
theorem PurseAt.back {H A : Hp} {q D : Addr} {B : Nat} (h : PurseAt A q B) (s : Sm [q] H A) (n : A D = none) : H D = none := by
  cases z : H D with
  | none => rfl
  | some u =>
    rw [s D u (fun y => h.has n (List.mem_singleton.mp y)) z] at n
    cases n
theorem rng_len (n : Nat) : (rngVs n).length = n := by simp [rngVs]
theorem rng_at {n i : Nat} {x : V} (h : (rngVs n)[i]? = some x) : i < n ∧ x = .int (0 + (i : Nat)) := by
  have hi : i < n := by
    have := (List.getElem?_eq_some_iff.mp h).1
    rw [rng_len] at this
    exact this
  refine ⟨hi, ?_⟩
  unfold rngVs at h
  rw [List.getElem?_map, List.getElem?_range hi] at h
  exact (Option.some.inj h).symm
/-- a comprehension over a range whose items take of a purse, c each -/
theorem lc_purse {n c : Nat} {q : Addr} {B : Nat} {j : Nat} {te : TE} {σ : L2.St} {H1 : Hp} {D : Addr} {Qd : Hp → Prop} (hq : PurseAt H1 q B) (hD : H1 D = none) (hz : n ≤ sizeLine) (R : Nat → V → Prop)
    (hs : ∀ i A, i < n → Sm [q] H1 A → PurseAt A q (B + c * i) → ∀ (Kt : V → Hp → Prop), (∀ y H4, Sm [q] A H4 → PurseAt H4 q (B + c * (i + 1)) → R i y → Kt y H4) → te ((σ.set j none).set j (some (.int (0 + (i : Nat))))) A Kt)
    (hd : ∀ A acc, Sm [q] H1 A → PurseAt A q (B + c * n) → A D = some (.lst acc) → acc.length = n → (∀ (i : Nat) (y : V), acc[i]? = some y → R i y) → Qd A) :
    ∃ W : Nat → Nat → Hp → Prop, (∃ m, W 0 m (upd H1 D (.lst []))) ∧ ∀ i m H, W i m H →
      ((Itr 0 n).stop i H ∧ Qd H) ∨ ((Itr 0 n).go i H ∧ ∃ Nx : Hp → Prop, (∀ H', Nx H' → ∃ m', m' < m ∧ W (i + 1) m' H') ∧ ∀ x H', (Itr 0 n).yld i H x H' → gName j x (wipe σ [j]) H' fun σ2 H2 => wipe σ2 [j] = wipe σ [j] ∧ tYes σ2 H2 fun b H3 =>
        if b = true then te σ2 H3 fun y H4 => ∃ acc, H4 D = some (.lst acc) ∧ acc.length < sizeLine ∧ Nx (upd H4 D (.lst (acc ++ [y]))) else Nx H3) := by
  have nq : D ≠ q := hq.has hD
  refine lc_map (walk_rng (n := n)) [q] (fun i A => PurseAt A q (B + c * i)) (fun i => ((rngVs n)[i]?).getD .non) (fun i y _ => R i y) (fun i A x B' hi y => ⟨y.1, by rw [y.2]; rfl⟩) hD (fun z => nq (List.mem_singleton.mp z)) (by rw [rng_len]; exact hz) (fun i A u z => z.put nq) hq (fun _ _ _ _ _ z => z) (fun _ _ => trivial) (fun i A hi sA hA Kt kt => ?_) (fun A acc sA hA eD la hR => ?_)
  · rw [rng_len] at hi
    have e : ((rngVs n)[i]?).getD .non = .int (0 + (i : Nat)) := by
      unfold rngVs
      rw [List.getElem?_map, List.getElem?_range hi]
      rfl
    rw [e]
    exact hs i A hi sA hA Kt kt
  · rw [rng_len] at hA la
    exact hd A acc sA hA eD la hR
theorem rngs_are {m : Nat} {g : Nat → Str} {acc : List V} (lC : acc.length = m) (hR : ∀ (i : Nat) (y : V), acc[i]? = some y → y = .str (g i)) : acc = ((List.range m).map g).map V.str :=
  acc_is (xs := (List.range m).map g) V.str (by rw [lC, List.length_map, List.length_range]) fun i y hy x hx => by
    rw [hR i y hy]
    obtain ⟨hi, _⟩ := List.getElem?_eq_some_iff.mp hx
    rw [List.length_map, List.length_range] at hi
    rw [List.getElem?_map, List.getElem?_range hi] at hx
    rw [← Option.some.inj hx]
section
variable {P : Program} {w : World} {K : PySem.W.Frag} {mg : Str → Option Value} {base : Heap}
def spLNames : Sp := fun vs H Q _ => ∃ q B, ∃ m : Nat, vs = [.ref q, .int (m : Int)] ∧ PurseAt H q B ∧ B ≤ 900000 ∧ m ≤ 12 ∧
  ∀ r H' ns, Sm [q] H H' → PurseAt H' q (B + 12) → H r = none → H' r = some (.lst ((ns : List Str).map V.str)) → ns.length = m → ns.Nodup → (∀ n ∈ ns, isName n) → Q (.ref r) H'
theorem sc__law_names : FnScope ["_law_purse_here", "_law_many", "_law_letters", "_law_way", "_law_first", "_law_stem", "_law_words", "_law_at", "_law_k"] ["_law_purse_here", "_law_many"] (defScope s__law_names) := ⟨rfl, rfl, rfl, by decide +kernel, rfl, by decide +kernel, by decide +kernel⟩
theorem F__law_names (T : Env w K mg) : Fx P w K mg base "_law_names" 2 ["_law_purse_here", "_law_many"] spLNames := by
  obtain ⟨fd, F⟩ := T.d__law_names
  have F__law_take := F__law_take (P := P) (base := base) T
  refine ⟨_, fd, T.glo__law_names, F.kp, F.bindsN fun _ _ _ _ _ _ us hl => match us, hl with | [_, _], _ => rfl, ?_⟩
  refine F.ok sc__law_names (fun vs H Q E h => ?_) (fun cdv A outer s H vs Q E hr h => ?_)
  · obtain ⟨q, B, m, rfl, _⟩ := h
    rfl
  · obtain ⟨q, B, m, rfl, hq, hB, hm, k⟩ := h
    refine ⟨_, PSs.nox (pss_cons (ps_set (i := 2) sc__law_names.nd rfl (Or.inr rfl) pe_str) (pss_cons (ps_set (i := 3) sc__law_names.nd rfl (Or.inl rfl) (pe_fx F__law_take (hr.mono (by decide)) rfl (pa_cons (pv 0) (pa_cons pe_int pa_nil)))) (pss_cons (ps_set (i := 4) sc__law_names.nd rfl (Or.inr rfl) (pe_fx F__law_take (hr.mono (by decide)) rfl (pa_cons (pv 0) (pa_cons pe_int pa_nil)))) (pss_cons (ps_set (i := 5) sc__law_names.nd rfl (Or.inr rfl) (pe_join pe_str (pe_lc (own := [("_law_k", 8)]) (g := gName 8) (tt := tYes) (by rfl) sc__law_names.nd (pi_range1 rfl T.free_range (pa_cons pe_int pa_nil)) (blkOk_by (own := [("_law_k", 8)]) (N := ["_law_purse_here", "_law_many", "_law_letters", "_law_way", "_law_first", "_law_stem", "_law_words", "_law_at", "_law_k"]) (sc := defScope s__law_names) (by decide +kernel)) (fun _ _ _ _ _ => (pg_name (i := 8) sc__law_names.nd rfl (Or.inl rfl))) (fun _ _ _ _ _ => pts_nil) (fun _ _ _ _ _ => (pe_ix ix_str (pv 2) (pe_fx F__law_take (hr.mono (by decide)) rfl (pa_cons (pv 0) (pa_cons pe_int pa_nil))) (fun _ _ => rfl)))))) (pss_cons (ps_if (pt_cmpR op_eq (pv 3) pe_int (nomark _)) (pss_cons (ps_set (i := 6) sc__law_names.nd rfl (Or.inr rfl) (pe_split pe_str pe_str)) (pss_one (ps_ret (pe_lc (own := [("_law_k", 8)]) (g := gName 8) (tt := tYes) (by rfl) sc__law_names.nd (pi_range1 rfl T.free_range (pa_cons (pv 1) pa_nil)) (blkOk_by (own := [("_law_k", 8)]) (N := ["_law_purse_here", "_law_many", "_law_letters", "_law_way", "_law_first", "_law_stem", "_law_words", "_law_at", "_law_k"]) (sc := defScope s__law_names) (by decide +kernel)) (fun _ _ _ _ _ => (pg_name (i := 8) sc__law_names.nd rfl (Or.inl rfl))) (fun _ _ _ _ _ => pts_nil) (fun _ _ _ _ _ => (pe_ix (ix_listK K) (pv 6) (pe_op op_mod (pe_op op_add (pv 4) (pe_op op_mul pe_int (pv 8))) pe_int) (fun _ _ => rfl))))))) pss_nil) (C8.pss_cut (ps_if (PW.pt (pw_and (pt_cmpR op_eq (pv 3) pe_int (nomark _)) (pw_and1 (pt_cmpR op_lt (pv 1) pe_int (nomark _))))) (pss_one (ps_ret (pe_lc (own := [("_law_k", 8)]) (g := gName 8) (tt := tYes) (by rfl) sc__law_names.nd (pi_range1 rfl T.free_range (pa_cons (pv 1) pa_nil)) (blkOk_by (own := [("_law_k", 8)]) (N := ["_law_purse_here", "_law_many", "_law_letters", "_law_way", "_law_first", "_law_stem", "_law_words", "_law_at", "_law_k"]) (sc := defScope s__law_names) (by decide +kernel)) (fun _ _ _ _ _ => (pg_name (i := 8) sc__law_names.nd rfl (Or.inl rfl))) (fun _ _ _ _ _ => pts_nil) (fun _ _ _ _ _ => (pe_slice sl_str (pv 5) po_none (po_some (pe_op op_add pe_int (pe_op op_mod (pe_op op_add (pv 4) (pe_op op_mul pe_int (pv 8))) pe_int)))))))) pss_nil) (pss_cons (ps_set (i := 7) sc__law_names.nd rfl (Or.inr rfl) (pe_fx F__law_take (hr.mono (by decide)) rfl (pa_cons (pv 0) (pa_cons pe_int pa_nil)))) (pss_cons (ps_set (i := 5) sc__law_names.nd rfl (Or.inr rfl) (pe_slice sl_str (pv 5) po_none (po_some (pe_fx F__law_take (hr.mono (by decide)) rfl (pa_cons (pv 0) (pa_cons pe_int pa_nil)))))) (pss_one (ps_ret (pe_lc (own := [("_law_k", 8)]) (g := gName 8) (tt := tYes) (by rfl) sc__law_names.nd (pi_range1 rfl T.free_range (pa_cons (pv 1) pa_nil)) (blkOk_by (own := [("_law_k", 8)]) (N := ["_law_purse_here", "_law_many", "_law_letters", "_law_way", "_law_first", "_law_stem", "_law_words", "_law_at", "_law_k"]) (sc := defScope s__law_names) (by decide +kernel)) (fun _ _ _ _ _ => (pg_name (i := 8) sc__law_names.nd rfl (Or.inl rfl))) (fun _ _ _ _ _ => pts_nil) (fun _ _ _ _ _ => (pe_op op_add_str (pe_op op_add_str (pe_slice sl_str (pv 5) po_none (po_some (pv 7))) (pe_ix ix_str (pv 2) (pe_op op_mod (pe_op op_add (pv 4) (pe_op op_mul pe_int (pv 8))) pe_int) (fun _ _ => rfl))) (pe_slice sl_str (pv 5) (po_some (pv 7)) po_none)))))))))))))), ?_⟩
    have hLet : (letters : Str).length ≤ sizeLine := by decide +kernel
    have letAt : ∀ n : Nat, n < 26 → atI (tx letters) (n : Int) = some ((tx letters).getD n 0) := fun n h => atI_nat (by
      have h : n < (tx letters).length := by rw [letters_len]; exact h
      rw [List.getD_eq_getElem?_getD, List.getElem?_eq_getElem h]
      rfl)
    refine ⟨_, rfl, q, B, 3, rfl, hq, by omega, by decide, by decide, fun H1 wy s1 hq1 w0 w1 => ?_⟩
    refine ⟨_, rfl, q, B + 1, 26, rfl, hq1, by omega, by decide, by decide, fun H2 fi s2 hq2 f0 f1 => ?_⟩
    obtain ⟨f, rfl⟩ := Int.eq_ofNat_of_zero_le f0
    have hf : f < 26 := by omega
    refine ⟨⟨_, rfl⟩, 8, rfl, by decide, by decide, fun D hD => ?_⟩
    refine lc_purse (c := 1) hq2 hD (by decide) (fun _ y => ∃ c, c ∈ tx letters ∧ y = .str ⟨#[c]⟩) (fun i A hi sA hA Kt kt => ?_) fun A acc sA hA eD la hR => ?_
    · refine ⟨_, rfl, _, rfl, q, _, 26, rfl, hA, by omega, by decide, by decide, fun A2 n s3 hq3 n0 n1 => ?_⟩
      obtain ⟨n, rfl⟩ := Int.eq_ofNat_of_zero_le n0
      exact ⟨_, n, _, rfl, rfl, hLet, letAt n (by omega), kt _ _ s3 (hq3.up (by omega)) ⟨_, lett_mem (by omega), rfl⟩⟩
    · obtain ⟨cs, rfl, hcs⟩ := strs_of hR
      rw [List.length_map, List.length_map] at la
      have hDH : H D = none := hq2.back (s1.trans s2) hD
      refine ⟨_, _, cs.map (fun c => (⟨#[c]⟩ : Str)), rfl, rfl, .inl (SqL.of eD), ?_, ?_⟩
      · rw [List.map_map]
        have e : cs.map (Str.length ∘ fun c => (⟨#[c]⟩ : Str)) = cs.map fun _ => 1 := List.map_congr_left fun _ _ => rfl
        rw [e]
        have e2 : (cs.map fun _ => 1).sum = cs.length := by
          clear la eD hR e
          induction cs with
          | nil => rfl
          | cons a r ih =>
            rw [List.map_cons, List.sum_cons, ih fun c hc => hcs c (List.mem_cons_of_mem _ hc), List.length_cons]
            omega
        rw [e2, List.length_map, la]
        decide +kernel
      · have est := stem_tx cs
        generalize Txt.join "" (cs.map fun c => (⟨#[c]⟩ : Str)) = z at est ⊢
        have hz : IsStem z := ⟨by rw [est]; exact la, by rw [est]; exact hcs⟩
        have zl : z.length ≤ sizeLine := by
          rw [tx_len, hz.1]
          decide
        have sHA : Sm [q] H A := s1.trans (s2.trans sA)
        have hqA : PurseAt A q (B + 10) := hA.up (by omega)
        clear hA hR eD
        refine ⟨_, rfl, rfl, _, rfl, ite2 (fun hb => ?_) (fun hb => ?_)⟩
        · refine ⟨⟨_, rfl⟩, _, _, rfl, rfl, (by decide +kernel), (by decide +kernel), fun l hl => ?_⟩
          rw [law_split]
          have sl : Same A (upd A l (.lst (lawWords.map V.str))) := same_upd hl
          have el : (upd A l (.lst (lawWords.map V.str))) l = some (.lst (lawWords.map V.str)) := upd_same
          have hqB : PurseAt (upd A l (.lst (lawWords.map V.str))) q (B + 10) := hqA.mono sl
          generalize upd A l (.lst (lawWords.map V.str)) = A2 at sl el hqB ⊢
          refine ⟨_, rfl, m, rfl, by omega, by omega, fun D2 hD2 => ?_⟩
          refine lc_purse (c := 0) hqB hD2 (Nat.le_trans hm (by decide)) (fun i y => y = .str (wordAt f i)) (fun i C hi sC hC Kt kt => ?_) fun C acc sC hC eC lC hR => ?_
          · have el2 := sC l _ (fun y => hqA.has hl (List.mem_singleton.mp y)) el
            refine ⟨_, rfl, _, rfl, _, rfl, _, _, rfl, rfl, .inl ⟨by decide, by decide⟩, _, _, rfl, rfl, _, _, rfl, rfl, (by decide : (0 : Int) < 12), l, _, _, .str (wordAt f i), rfl, rfl, SqL.of el2, ?_, kt _ _ Sm.refl hC rfl⟩
            have e : ((f : Int) + 5 * (0 + (i : Nat))) % 12 = (((f + 5 * i) % 12 : Nat) : Int) := by omega
            rw [e]
            refine atI_nat ?_
            have h12 : (f + 5 * i) % 12 < lawWords.length := Nat.mod_lt _ (by decide)
            unfold wordAt
            rw [List.getElem?_map, List.getD_eq_getElem?_getD, List.getElem?_eq_getElem h12]
            rfl
          · have e := rngs_are (m := m) lC hR
            rw [e] at eC
            have sHC : Sm [q] H C := sHA.trans ((Same_sm sl).trans sC)
            refine k D2 C _ sHC (hC.up (by omega)) (hqB.back (sHA.trans (Same_sm sl)) hD2) eC (by rw [List.length_map, List.length_range]) (range_nodup (word_ok ⟨f, hf⟩) hm) fun n hn => ?_
            obtain ⟨i, _, rfl⟩ := List.mem_map.mp hn
            exact wordAt_name f i
        · have key : ∀ g : Nat → Str, ((List.range 12).map g).Nodup ∨ ((List.range 8).map g).Nodup ∧ m ≤ 8 → (∀ i, isName (g i)) → ∀ D2 C acc B2, Sm [q] A C → PurseAt C q B2 → B2 ≤ B + 12 → H D2 = none → C D2 = some (.lst acc) → acc.length = m → (∀ (i : Nat) (y : V), acc[i]? = some y → y = .str (g i)) → Q (.ref D2) C := by
            intro g hg hn D2 C acc B2 sC hC hB2 nD eC lC hR
            have e := rngs_are (m := m) lC hR
            rw [e] at eC
            refine k D2 C _ (sHA.trans sC) (hC.up hB2) nD eC (by rw [List.length_map, List.length_range]) ?_ fun n hx => ?_
            · rcases hg with hg | ⟨hg, h8⟩
              · exact range_nodup hg hm
              · exact range_nodup hg h8
            · obtain ⟨i, _, rfl⟩ := List.mem_map.mp hx
              exact hn i
          refine ⟨fun σ' A' => σ' = [some (.ref q), some (.int (m : Int)), some (.str letters), some (.int wy), some (.int (f : Int)), some (.str z), none, none, none] ∧ A' = A, ?_, ?_⟩
          · refine ⟨_, rfl, rfl, _, rfl, ite2 (fun hb2 => ?_) (fun hb2 => ?_)⟩
            · refine ⟨_, rfl, _, _, rfl, rfl, _, rfl, ite2 (fun hb3 => ?_) (fun hb3 => ?_)⟩
              · have m8 : m ≤ 8 := by
                  have := of_decide_eq_true hb3
                  omega
                refine ⟨_, rfl, m, rfl, by omega, by omega, fun D2 hD2 => ?_⟩
                refine lc_purse (c := 0) hqA hD2 (Nat.le_trans hm (by decide)) (fun i y => y = .str (begAt z f i)) (fun i C hi sC hC Kt kt => ?_) fun C acc sC hC eC lC hR => key (begAt z f) (.inr ⟨beg_nodup hz ⟨f, hf⟩, m8⟩) (begAt_name hz f) D2 C acc _ sC hC (by omega) (hqA.back sHA hD2) eC lC hR
                have e : 1 + ((f : Int) + 3 * (0 + (i : Nat))) % 8 = ((1 + (f + 3 * i) % 8 : Nat) : Int) := by omega
                refine ⟨_, rfl, _, rfl, _, rfl, _, _, rfl, rfl, .inl ⟨by decide, by decide⟩, _, _, rfl, rfl, _, _, rfl, rfl, (by decide : (0 : Int) < 8), _, _, rfl, rfl, _, rfl, z, rfl, zl, kt _ _ Sm.refl hC ?_⟩
                show V.str (cutS z none (some (1 + ((f : Int) + 3 * (0 + (i : Nat))) % 8))) = _
                rw [e]
                rfl
              · exact ⟨rfl, rfl⟩
            · exact iteF ⟨rfl, rfl⟩
          · rintro σ' A' ⟨rfl, rfl⟩
            refine ⟨_, rfl, q, B + 10, 8, rfl, hqA, by omega, by decide, by decide, fun A2 at_ s3 hq3 a0 a1 => ?_⟩
            obtain ⟨a, rfl⟩ := Int.eq_ofNat_of_zero_le a0
            refine ⟨_, rfl, _, rfl, q, B + 11, 8, rfl, hq3, by omega, by decide, by decide, fun A3 ct s4 hq4 c0 c1 => ?_⟩
            obtain ⟨c, rfl⟩ := Int.eq_ofNat_of_zero_le c0
            refine ⟨_, rfl, z, rfl, zl, ?_⟩
            have ey := cut_lo z c
            generalize cutS z none (some (c : Int)) = y at ey
            have yl : (tx y).length ≤ 7 := by
              rw [ey, List.length_take]
              omega
            have yc : ∀ c ∈ tx y, c ∈ tx letters := fun d hd => by
              rw [ey] at hd
              exact hz.2 d (List.mem_of_mem_take hd)
            have ylen : y.length ≤ sizeLine := by
              rw [tx_len]
              exact Nat.le_trans yl (by decide)
            have s34 : Sm [q] A' A3 := s3.trans s4
            refine ⟨_, rfl, m, rfl, by omega, by omega, fun D2 hD2 => ?_⟩
            refine lc_purse (c := 0) hq4 hD2 (Nat.le_trans hm (by decide)) (fun i x => x = .str (midAt y a f i)) (fun i C hi sC hC Kt kt => ?_) fun C acc sC hC eC lC hR => key (midAt y a f) (.inl (mid_nodup y a ⟨f, hf⟩)) (midAt_name yl yc a f) D2 C acc _ (s34.trans sC) hC (by omega) (hq4.back (sHA.trans s34) hD2) eC lC hR
            have e : ((f : Int) + 7 * (0 + (i : Nat))) % 26 = (((f + 7 * i) % 26 : Nat) : Int) := by omega
            have h26 : (f + 7 * i) % 26 < 26 := Nat.mod_lt _ (by decide)
            have la : (cutS y none (some (a : Int))).length ≤ 7 := by
              rw [tx_len, cut_lo, List.length_take]
              omega
            have lb : (cutS y (some (a : Int)) none).length ≤ 7 := by
              rw [tx_len, cut_hi, List.length_drop]
              omega
            have lc : (cutS y none (some (a : Int)) ++ lett ((f + 7 * i) % 26)).length ≤ 8 := by
              rw [tx_len, tx_app, List.length_append, ← tx_len]
              exact Nat.succ_le_succ la
            refine ⟨_, rfl, _, rfl, _, rfl, y, rfl, ylen, ?_⟩
            refine ⟨_, rfl, _, rfl, _, rfl, _, _, rfl, rfl, .inl ⟨by decide, by decide⟩, _, _, rfl, rfl, _, _, rfl, rfl, (by decide : (0 : Int) < 26), _, _, (tx letters).getD ((f + 7 * i) % 26) 0, rfl, rfl, hLet, by rw [e]; exact letAt _ h26, ?_⟩
            refine ⟨_, _, rfl, rfl, Nat.le_trans (Nat.add_le_add la (Nat.le_refl 1)) (by decide), ?_⟩
            refine ⟨_, rfl, _, rfl, _, rfl, y, rfl, ylen, _, _, rfl, rfl, Nat.le_trans (Nat.add_le_add lc lb) (by decide), kt _ _ Sm.refl hC rfl⟩
end
end Bx
set_option Elab.async false
set_option linter.all false
set_option maxRecDepth 100000
set_option maxHeartbeats 1000000
/-! BxY2: the law's choices. -/
namespace Bx
open PySem PySem.Spec PyProof.Rows L2
theorem atI_nat' {α : Type} {xs : List α} {i : Nat} {x : α} (h : xs[i]? = some x) : atI xs (0 + (i : Int)) = some x := by
  rw [Int.zero_add]
  exact atI_nat h
section
variable {P : Program} {w : World} {K : PySem.W.Frag} {mg : Str → Option Value} {base : Heap}
def spLawChoices (K : PySem.W.Frag) (m : Nat) : Sp := fun vs H Q _ => ∃ v ns, vs = [v, .int (m : Nat)] ∧ TxtAt H v ns ∧ ns.length ≤ 4 ∧ ∀ D H' us, Same H H' → H D = none → H' D = some (.lst us) → CsAt H' us (chosen m ns) → Q (.ref D) H'
theorem sc__law_choices : FnScope ["_law_names_here", "_law_many", "_law_found", "_law_k", "_law_more"] ["_law_names_here", "_law_many"] (defScope s__law_choices) := ⟨rfl, rfl, rfl, by decide +kernel, rfl, by decide +kernel, by decide +kernel⟩
theorem ok_law_choices (T : Env w K mg) {fd : FuncData} (F : FunD K "_law_choices" "_law_choices" (defArgs s__law_choices) (defBody s__law_choices) (defScope s__law_choices) [] [] (He.fAd K ("_law_choices", none)) fd) (m k : Nat) (F2 : ∀ m', m = m' + 1 → Fx P w K mg base "_law_choices" k ["_law_names_here", "_law_many"] (spLawChoices K m')) : FnOk P w K mg base CX0 (k + 1) (He.fAd K ("_law_choices", none)) fd ["_law_names_here", "_law_many"] (spLawChoices K m) := by
  refine F.ok sc__law_choices (fun vs H Q E h => ?_) (fun cdv A outer s H vs Q E hr h => ?_)
  · obtain ⟨v, ns, rfl, _⟩ := h
    rfl
  · obtain ⟨v, ns, rfl, hv, h4, k0⟩ := h
    cases m with
    | zero =>
      refine ⟨_, PSs.nox (pss_cons (ps_if (pt_cmpR op_eq (pv 1) pe_int (nomark _)) (pss_one (ps_ret (pe_lst (pa_cons (pe_tup pa_nil) pa_nil)))) pss_nil) (pss_cons ps_never (pss_cons ps_never (pss_one ps_never)))), ?_⟩
      refine ⟨_, rfl, rfl, _, rfl, iteT ⟨Nat.zero_le _, fun p hp => ⟨(by show 1 ≤ sizeLine; decide), fun D hD => ?_⟩⟩⟩
      have np : p ≠ D := fun z => by rw [z, upd_same] at hD; cases hD
      have hD0 : H D = none := by rwa [upd_ne np.symm] at hD
      refine k0 D _ [.ref p] ((same_upd hp).trans (same_upd hD)) hD0 upd_same ?_
      rw [show chosen 0 ns = [[]] by simp [chosen]]
      refine .cons ⟨p, rfl, ?_⟩ .nil
      rw [upd_ne np]
      exact upd_same
    | succ m =>
      have F__law_choices := F2 m rfl
      refine ⟨_, PSs.nox (pss_cons (ps_if (pt_cmpR op_eq (pv 1) pe_int (nomark _)) (pss_one ps_never) pss_nil) (pss_cons (ps_set (i := 2) sc__law_choices.nd rfl (Or.inl rfl) (pe_lst pa_nil)) (pss_cons (ps_for PassesOwn.never rfl (pi_range1 rfl T.free_range (pa_cons (pe_callB call_len_seq (by rfl) T.free_len (by decide +kernel) (pa_cons (pv 0) pa_nil)) pa_nil)) (pg_name (i := 3) sc__law_choices.nd rfl (Or.inr rfl)) (pss_one (ps_set (i := 2) sc__law_choices.nd rfl (Or.inl rfl) (pe_op op_cat (pv 2) (pe_lc (own := [("_law_more", 4)]) (g := gName 4) (tt := tYes) (by rfl) sc__law_choices.nd (pi_list (pe_fx F__law_choices (hr.mono (by omega)) rfl (pa_cons (pe_slice sl_tupA (pv 0) (po_some (pe_op op_add (pv 3) pe_int)) po_none) (pa_cons (pe_op op_sub (pv 1) pe_int) pa_nil)))) (blkOk_by (own := [("_law_more", 4)]) (N := ["_law_names_here", "_law_many", "_law_found", "_law_k", "_law_more"]) (sc := defScope s__law_choices) (by decide +kernel)) (fun _ _ _ _ _ => (pg_name (i := 4) sc__law_choices.nd rfl (Or.inl rfl))) (fun _ _ _ _ _ => pts_nil) (fun _ _ _ _ _ => (pe_op (op_catAK K) (pe_tup (pa_cons (pe_ix (ix_tupK K) (pv 0) (pv 3) (fun _ _ => rfl)) pa_nil)) (pv 4)))))))) (pss_one (ps_ret (pv 2)))))), ?_⟩
      have m0 : ¬ ((((m + 1 : Nat) : Nat) : Int) = 0) := by omega
      obtain ⟨p, rfl, hp⟩ := id hv
      refine ⟨_, rfl, rfl, _, rfl, iteE false (decide_eq_false fun z => m0 (by injection z)) ?_⟩
      refine ⟨Nat.zero_le _, fun D hD => ?_⟩
      have s0 : Same H (upd H D (.lst [])) := same_upd hD
      have l4 : (ns.map V.str).length ≤ 4 := by rw [List.length_map]; exact h4
      refine ⟨_, rfl, p, _, rfl, .inr (SqT.of (s0 _ _ hp)), (ns.map V.str).length, rfl, by omega, by omega, ?_⟩
      refine for_it (walk_rng (n := (ns.map V.str).length)) (fun i σ H' => ∃ D1 us cs u3, σ = [some (.ref p), some (.int ((m + 1 : Nat) : Int)), some (.ref D1), u3, none] ∧ Same H H' ∧ H D1 = none ∧ H' D1 = some (.lst us) ∧ CsAt H' us cs ∧ cs ++ chosen (m + 1) (ns.drop i) = chosen (m + 1) ns)
        ⟨D, [], [], none, rfl, s0, hD, upd_same, .nil, rfl⟩ (fun i σ H' _ h => trivial) (fun i x σ B C hi h y => ?_) fun σ B h => ?_
      · obtain ⟨D1, us, cs, u3, rfl, s1, nD1, eD, hc, eq⟩ := h
        obtain ⟨rfl, ex⟩ := y
        obtain ⟨hi, rfl⟩ := rng_at ex
        rw [List.length_map] at hi
        have dr : ns.drop i = ns[i] :: ns.drop (i + 1) := List.drop_eq_getElem_cons hi
        refine ⟨_, rfl, ?_⟩
        refine ⟨_, rfl, _, rfl, _, _, rfl, rfl, ((i + 1 : Nat) : Int), (by show V.int _ = _; congr 1; omega), ?_⟩
        dsimp only [tNoPart]
        refine slice_from (s1 _ _ hp) fun tv B2 s3 h3 => ?_
        rw [← List.map_drop] at h3
        refine ⟨_, rfl, _, _, rfl, rfl, tv, ns.drop (i + 1), ?_, h3, by rw [List.length_drop]; omega, fun D3 B3 us1 s4 n1 e4 c4 => ?_⟩
        · show [tv, V.int (((m + 1 : Nat) : Int) - 1)] = _
          rw [show ((m + 1 : Nat) : Int) - 1 = (m : Nat) by omega]
        refine ⟨D3, rfl, ⟨_, SqL.of e4⟩, fun D2 hD2 => ?_⟩
        have lc : us1.length ≤ 16 := by
          rw [c4.length]
          refine Nat.le_trans (chosen_len _ _) ?_
          exact Nat.pow_le_pow_right (by decide) (show (ns.drop (i + 1)).length ≤ 4 by rw [List.length_drop]; omega)
        have s34 : Same C B3 := s3.trans s4
        refine lc_src (walk_list (xs := us1)) (fun A a => SqL.of (a _ _ e4)) hD2 (Nat.le_trans lc (by decide)) (fun j y A => ∀ c, (chosen m (ns.drop (i + 1)))[j]? = some c → TxtAt A y (ns[i] :: c)) (fun j y A A' s z c hc => TrkAt.mono s (z c hc)) (fun j x A ex sA aD Kt kt => ?_) fun A acc sA eA hl hb => ?_
        · obtain ⟨c, ec, pc, rfl, hpc⟩ := Paired.at c4 ex
          refine ⟨_, rfl, _, rfl, p, _, _, .str ns[i], rfl, rfl, SqT.of ((s34.trans sA) _ _ (s1 _ _ hp)), ?_, (by show 1 ≤ sizeLine; decide), fun q hq => ⟨_, rfl, cat_tup upd_same ((sA.trans (same_upd hq)) _ _ hpc) ?_ fun r A2 s6 h6 => ?_⟩⟩
          · refine atI_nat' ?_
            rw [List.getElem?_map, List.getElem?_eq_getElem hi]
            rfl
          · have := (chosen_each _ _ c (List.mem_of_getElem? ec)).2.length_le
            rw [List.length_drop] at this
            rw [List.length_map]
            exact Nat.le_trans (show 1 + c.length ≤ 5 by omega) (by decide)
          · obtain ⟨aL, eL⟩ := aD
            have s7 : Same A A2 := (same_upd hq).trans s6
            refine kt r A2 s7 fun c' hc' => ?_
            rw [ec] at hc'
            obtain rfl := Option.some.inj hc'
            exact TrkAt.off h6 (s7 _ _ eL)
        · have eD2 : A D1 = some (.lst us) := sA _ _ (s34 _ _ eD)
          have eqs : (cs ++ (chosen m (ns.drop (i + 1))).map (ns[i] :: ·)) ++ chosen (m + 1) (ns.drop (i + 1)) = chosen (m + 1) ns := by
            rw [← eq, dr, List.append_assoc]
            rfl
          have la : acc.length = (chosen m (ns.drop (i + 1))).length := by rw [hl, c4.length]
          have pa : CsAt A acc ((chosen m (ns.drop (i + 1))).map (ns[i] :: ·)) := paired_of (by rw [List.length_map, la]) fun j x c hx hc => by
            rw [List.getElem?_map] at hc
            obtain ⟨c', hc', rfl⟩ := Option.map_eq_some_iff.mp hc
            exact TrkAt.mono off_le (hb j x hx c' hc')
          have tot : us.length + acc.length ≤ 16 := by
            have h1 := congrArg List.length eqs
            rw [List.length_append, List.length_append, List.length_map] at h1
            have h2 : (chosen (m + 1) ns).length ≤ 16 := Nat.le_trans (chosen_len _ _) (Nat.pow_le_pow_right (by decide) h4)
            have h3 := hc.length
            omega
          refine ⟨D1, D2, us, acc, rfl, rfl, eD2, eA, Nat.le_trans tot (by decide), fun D4 hD4 => ?_⟩
          have s5 : Same A (upd A D4 (.lst (us ++ acc))) := same_upd hD4
          have sAll : Same H A := s1.trans (s34.trans sA)
          have nD4 : H D4 = none := by
            cases z : H D4 with
            | none => rfl
            | some u => rw [sAll _ _ z] at hD4; cases hD4
          refine ⟨_, _, _, _, rfl, sAll.trans s5, nD4, upd_same, ?_, eqs⟩
          exact paired_app (hc.mono ((s34.trans sA).trans s5)) (pa.mono s5)
      · obtain ⟨D1, us, cs, u3, rfl, s1, nD1, eD, hc, eq⟩ := h
        refine ⟨_, rfl, k0 D1 B us s1 nD1 eD ?_⟩
        rw [rng_len, List.length_map, List.drop_length] at eq
        have e5 : cs = chosen (m + 1) ns := by
          rw [← eq]
          exact (List.append_nil _).symm
        rw [← e5]
        exact hc
theorem F__law_choicesA (T : Env w K mg) : Fx P w K mg base "_law_choices" 5 ["_law_names_here", "_law_many"] (fun vs H Q E => ∃ m, m ≤ 4 ∧ spLawChoices K m vs H Q E) := by
  obtain ⟨fd, F⟩ := T.d__law_choices
  have b : Binds K fd ["_law_names_here", "_law_many"] [] := F.bindsN fun _ _ _ _ _ _ us hl => match us, hl with | [_, _], _ => rfl
  have all : ∀ m, FnOk P w K mg base CX0 (m + 1) (He.fAd K ("_law_choices", none)) fd ["_law_names_here", "_law_many"] (spLawChoices K m) := fun m => by
    induction m with
    | zero => exact ok_law_choices T F 0 0 fun m' e => absurd e (by omega)
    | succ m ih =>
      refine ok_law_choices T F (m + 1) (m + 1) fun m' e => ?_
      obtain rfl : m' = m := by omega
      exact ⟨_, fd, T.glo__law_choices, F.kp, b, ih⟩
  exact ⟨_, fd, T.glo__law_choices, F.kp, b, fnok_ex fun m hm => (all m).mono (by omega)⟩
def spLawAll (K : PySem.W.Frag) : Sp := fun vs H Q _ => ∃ p ns, vs = [.ref p] ∧ SqL K H p ((ns : List Str).map V.str) ∧ ns.length ≤ 4 ∧ ∀ D H' us, Same H H' → H D = none → H' D = some (.lst us) → CsAt H' us (choicesOf ns) → Q (.ref D) H'
theorem sc__law_all_choices : FnScope ["_law_names_here", "_law_found", "_law_many"] ["_law_names_here"] (defScope s__law_all_choices) := ⟨rfl, rfl, rfl, by decide +kernel, rfl, by decide +kernel, by decide +kernel⟩
theorem F__law_all_choices (T : Env w K mg) : Fx P w K mg base "_law_all_choices" 6 ["_law_names_here"] (spLawAll K) := by
  obtain ⟨fd, F⟩ := T.d__law_all_choices
  have F__law_choices := F__law_choicesA (P := P) (base := base) T
  refine ⟨_, fd, T.glo__law_all_choices, F.kp, F.bindsN fun _ _ _ _ _ _ us hl => match us, hl with | [_], _ => rfl, ?_⟩
  refine F.ok sc__law_all_choices (fun vs H Q E h => ?_) (fun cdv A outer s H vs Q E hr h => ?_)
  · obtain ⟨p, ns, rfl, _⟩ := h
    rfl
  · obtain ⟨p, ns, rfl, hp, h4, k⟩ := h
    refine ⟨_, PSs.nox (pss_cons (ps_set (i := 1) sc__law_all_choices.nd rfl (Or.inl rfl) (pe_lst pa_nil)) (pss_cons (ps_for PassesOwn.never rfl (pi_range2 rfl T.free_range (pa_cons pe_int (pa_cons (pe_op op_add (pe_callB call_len_seq (by rfl) T.free_len (by decide +kernel) (pa_cons (pv 0) pa_nil)) pe_int) pa_nil))) (pg_name (i := 2) sc__law_all_choices.nd rfl (Or.inl rfl)) (pss_one (ps_set (i := 1) sc__law_all_choices.nd rfl (Or.inl rfl) (pe_op op_cat (pv 1) (pe_fx F__law_choices (hr.mono (by decide)) rfl (pa_cons (pe_callTy call_tupS (by rfl) T.free_tuple (by decide +kernel) (pa_cons (pv 0) pa_nil)) (pa_cons (pv 2) pa_nil))))))) (pss_one (ps_ret (pv 1))))), ?_⟩
    refine ⟨Nat.zero_le _, fun D hD => ?_⟩
    have s0 : Same H (upd H D (.lst [])) := same_upd hD
    have hpm : ∀ {A : Hp}, Same H A → SqL K A p (ns.map V.str) := fun s => Same.seq s hp
    refine ⟨_, rfl, p, _, rfl, .inl (hpm s0), ?_⟩
    rw [List.length_map]
    refine ⟨_, _, rfl, rfl, 1, ((ns.length : Nat) : Int) + 1, rfl, ⟨by omega, by omega, by omega, by omega⟩, ?_⟩
    rw [show (((ns.length : Nat) : Int) + 1 - 1).toNat = ns.length by omega]
    refine for_it walk_range (fun i σ H' => ∃ D1 u us, σ = [some (.ref p), some (.ref D1), u] ∧ Same H H' ∧ H D1 = none ∧ H' D1 = some (.lst us) ∧ CsAt H' us ((List.range i).flatMap fun j => chosen (j + 1) ns))
      ⟨D, none, [], rfl, s0, hD, upd_same, .nil⟩ (fun _ _ _ _ _ => trivial) (fun i x σ B C hi h y => ?_) fun σ B h => ?_
    · obtain ⟨D1, u, us, rfl, s1, n1, eD, hc⟩ := h
      obtain ⟨rfl, rfl⟩ := y
      refine ⟨_, rfl, _, rfl, p, _, rfl, .inl (hpm s1), fun v B2 s2 h2 => ?_⟩
      refine ⟨_, rfl, i + 1, by omega, v, ns, ?_, h2, h4, fun D2 B3 us1 s3 n3 e3 c3 => ?_⟩
      · show [v, V.int (1 + (i : Int))] = _
        rw [show 1 + (i : Int) = ((i + 1 : Nat) : Int) by omega]
      have s23 := s2.trans s3
      have l1 : us.length ≤ 64 := by
        rw [hc.length]
        have := flat_len (fun j => chosen (j + 1) ns) 16 (fun j => chosen16 h4) i
        omega
      have l2 : us1.length ≤ 16 := by
        rw [c3.length]
        exact chosen16 h4
      refine ⟨D1, D2, us, us1, rfl, rfl, s23 _ _ eD, e3, Nat.le_trans (show us.length + us1.length ≤ 80 by omega) (by decide), fun D4 hD4 => ?_⟩
      have s5 : Same B3 (upd B3 D4 (.lst (us ++ us1))) := same_upd hD4
      have sAll : Same H B3 := s1.trans s23
      have nD4 : H D4 = none := by
        cases z : H D4 with
        | none => rfl
        | some u => rw [sAll _ _ z] at hD4; cases hD4
      refine ⟨_, _, _, rfl, sAll.trans s5, nD4, upd_same, ?_⟩
      rw [flat_snoc]
      exact paired_app (hc.mono (s23.trans s5)) (c3.mono s5)
    · obtain ⟨D1, u, us, rfl, s1, n1, eD, hc⟩ := h
      exact ⟨_, rfl, k D1 B us s1 n1 eD hc⟩
end
end Bx
set_option Elab.async false
set_option linter.all false
set_option maxRecDepth 100000
set_option maxHeartbeats 1000000
/-! BxY3: the law's layings. -/
namespace Bx
open PySem PySem.Spec PyProof.Rows L2
theorem paired_erase {α β : Type} {R : α → β → Prop} : ∀ {l : List α} {m : List β} (k : Nat), Paired R l m → Paired R (l.eraseIdx k) (m.eraseIdx k)
  | _, _, _, .nil => .nil
  | _, _, 0, .cons _ t => t
  | _, _, k + 1, .cons r t => .cons r (paired_erase k t)
theorem flat_erase {α β : Type} (f : α → List β) {l : List α} {k : Nat} (h : k < l.length) : (f l[k] ++ (l.eraseIdx k).flatMap f).Perm (l.flatMap f) := by
  have := (erase_perm h).flatMap_right f
  rwa [List.flatMap_append, List.flatMap_cons, List.flatMap_nil, List.append_nil] at this
theorem flat_at {α β : Type} (f : α → List β) {l : List α} {k : Nat} {x : α} (e : l[k]? = some x) : (f x ++ (l.eraseIdx k).flatMap f).Perm (l.flatMap f) := by
  obtain ⟨h, rfl⟩ := List.getElem?_eq_some_iff.mp e
  exact flat_erase f h
/-- a list is no tuple -/
theorem lay_off {K : PySem.W.Frag} {H : Hp} {S : List Addr} (hS : ∀ b ∈ S, ∀ u, H b = some u → ∃ xs, u = .lst xs) : ∀ {L : Lay} {v : V}, LayAt K H v L → LayAt K (off S H) v L := by
  have key : ∀ {v : V} {xs : List V}, TupAt K H v xs → TupAt K (off S H) v xs := by
    rintro v xs ⟨p, rfl, h⟩
    refine ⟨p, rfl, ?_⟩
    have at_ : ∀ u, H p = some u → (∀ xs, u ≠ .lst xs) → off S H p = some u := fun u e n => by
      rw [off_out fun m => ?_]
      · exact e
      · obtain ⟨xs, z⟩ := hS p m u e
        exact n xs z
    rcases h with (h | ⟨o, h⟩) | h
    · exact .inl (.inl (at_ _ h fun _ z => nomatch z))
    · exact .inl (.inr ⟨o, at_ _ h fun _ z => nomatch z⟩)
    · exact .inr h
  intro L
  induction L with
  | one n o =>
    rintro v ⟨q, h1, h2⟩
    exact ⟨q, key h1, key h2⟩
  | by_ k a b ia ib =>
    rintro v ⟨va, vb, h1, h2, h3⟩
    exact ⟨va, vb, key h1, ia h2, ib h3⟩
section
variable {P : Program} {w : World} {K : PySem.W.Frag} {mg : Str → Option Value} {base : Heap}
def spLLaying (K : PySem.W.Frag) : Sp := fun vs H Q _ => ∃ q B p ns, vs = [.ref q, .ref p] ∧ PurseAt H q B ∧ B ≤ 900000 ∧ p ≠ q ∧ SqL K H p ((ns : List Str).map V.str) ∧ 1 ≤ ns.length ∧ ns.length ≤ 12 ∧
  ∀ v H' L, Sm [q] H H' → PurseAt H' q (B + 48) → LayAt K H' v L → L.names.Perm ns → Q v H'
theorem sc__law_laying : FnScope ["_law_purse_here", "_law_names_here", "_law_pieces", "_law_first", "_law_second", "_law_name"] ["_law_purse_here", "_law_names_here"] (defScope s__law_laying) := ⟨rfl, rfl, rfl, by decide +kernel, rfl, by decide +kernel, by decide +kernel⟩
theorem F__law_laying (T : Env w K mg) : Fx P w K mg base "_law_laying" 2 ["_law_purse_here", "_law_names_here"] (spLLaying K) := by
  obtain ⟨fd, F⟩ := T.d__law_laying
  have F__law_take := F__law_take (P := P) (base := base) T
  have F__law_orders := F__law_orders (P := P) (base := base) T
  refine ⟨_, fd, T.glo__law_laying, F.kp, F.bindsN fun _ _ _ _ _ _ us hl => match us, hl with | [_, _], _ => rfl, ?_⟩
  refine F.ok sc__law_laying (fun vs H Q E h => ?_) (fun cdv A outer s H vs Q E hr h => ?_)
  · obtain ⟨q, B, p, ns, rfl, _⟩ := h
    rfl
  · obtain ⟨q, B, p, ns, rfl, hq, hB, npq, hp, h1, h2, k⟩ := h
    refine ⟨_, PSs.nox (pss_cons (ps_setLc (i := 2) (own := [("_law_name", 5)]) (g := gName 5) (tt := tYes) (by rfl) sc__law_laying.nd rfl rfl (sw_true rfl rfl rfl (by decide +kernel)) (pi_list (pv 1)) (blkOk_by (own := [("_law_name", 5)]) (N := ["_law_purse_here", "_law_names_here", "_law_pieces", "_law_first", "_law_second", "_law_name"]) (sc := defScope s__law_laying) (by decide +kernel)) (fun _ _ _ _ _ => (pg_name (i := 5) sc__law_laying.nd rfl (Or.inl rfl))) (fun _ _ _ _ _ => pts_nil) (fun _ _ _ _ _ => (pe_tup (pa_cons pe_str (pa_cons (pv 5) (pa_cons (pe_ix (ix_listK K) (pe_fx0 F__law_orders (hr.mono (by decide)) rfl) (pe_fx F__law_take (hr.mono (by decide)) rfl (pa_cons (pv 0) (pa_cons pe_int pa_nil))) (fun _ _ => rfl)) pa_nil)))))) (pss_cons (ps_while PassesOwn.never (pt_cmpR op_gt (pe_callB call_len_seq (by rfl) T.free_len (by decide +kernel) (pa_cons (pv 2) pa_nil)) pe_int (nomark _)) (pss_cons (ps_set (i := 3) sc__law_laying.nd rfl (Or.inl rfl) (pe_bm PySem.F.plainAttrs_list PySem.F.slot_list_pop PySem.F.type_list_pop mt_popAt (pv 2) (pa_cons (pe_fx F__law_take (hr.mono (by decide)) rfl (pa_cons (pv 0) (pa_cons (pe_callB call_len_seq (by rfl) T.free_len (by decide +kernel) (pa_cons (pv 2) pa_nil)) pa_nil))) pa_nil))) (pss_cons (ps_set (i := 4) sc__law_laying.nd rfl (Or.inl rfl) (pe_bm PySem.F.plainAttrs_list PySem.F.slot_list_pop PySem.F.type_list_pop mt_popAt (pv 2) (pa_cons (pe_fx F__law_take (hr.mono (by decide)) rfl (pa_cons (pv 0) (pa_cons (pe_callB call_len_seq (by rfl) T.free_len (by decide +kernel) (pa_cons (pv 2) pa_nil)) pa_nil))) pa_nil))) (pss_one (ps_expr (pe_bm PySem.F.plainAttrs_list PySem.F.slot_list_append PySem.F.type_list_append mt_append (pv 2) (pa_cons (pe_tup (pa_cons pe_str (pa_cons (pe_fx F__law_take (hr.mono (by decide)) rfl (pa_cons (pv 0) (pa_cons pe_int pa_nil))) (pa_cons (pv 3) (pa_cons (pv 4) pa_nil))))) pa_nil))))))) (pss_one (ps_ret (pe_ix ix_list (pv 2) pe_int (fun _ _ => rfl)))))), ?_⟩
    have lm : (ns.map V.str).length ≤ 12 := by rw [List.length_map]; exact h2
    refine ⟨_, rfl, p, rfl, ⟨_, hp⟩, fun D hD => ?_⟩
    have nDq : D ≠ q := hq.has hD
    have stay : ∀ {A : Hp}, Sm [q] H A → SqL K A p (ns.map V.str) := fun s => by
      rcases hp with (h | ⟨o, h⟩) | h
      · exact .inl (.inl (s _ _ (fun z => npq (List.mem_singleton.mp z)) h))
      · exact .inl (.inr ⟨o, s _ _ (fun z => npq (List.mem_singleton.mp z)) h⟩)
      · exact .inr h
    refine lc_acc (walk_list (xs := ns.map V.str)) [q] (fun i A => PurseAt A q (B + i)) (fun i acc A => acc.length = i ∧ ∃ Ls, Paired (LayAt K A) acc Ls ∧ Ls.flatMap Lay.names = ns.take i) hD (fun z => nDq (List.mem_singleton.mp z)) (fun i A u z => z.put nDq) hq ⟨rfl, [], .nil, rfl⟩ (fun A s => stay s) (fun i x A A1 acc hi sA hA eD hP y Kt Kf kt _ => ?_) (fun A acc sA hA eD hP => ?_)
    · obtain ⟨rfl, ex⟩ := y
      rw [List.length_map] at hi
      have e : x = .str ns[i] := by
        rw [List.getElem?_map, List.getElem?_eq_getElem hi] at ex
        exact (Option.some.inj ex).symm
      subst e
      obtain ⟨la, Ls, hLs, eLs⟩ := hP
      refine ⟨rfl, ?_⟩
      refine iteT (B := True) ?_
      refine ⟨_, rfl, rfl, fun ro A2 ts s2 n2 e2 l2 ho => ?_⟩
      have hq2 : PurseAt A2 q (B + i) := hA.mono s2
      refine ⟨_, rfl, q, B + i, 6, rfl, hq2, by omega, by decide, by decide, fun A3 oi s3 hq3 o0 o1 => ?_⟩
      obtain ⟨oi, rfl⟩ := Int.eq_ofNat_of_zero_le o0
      have ho6 : oi < 6 := by omega
      obtain ⟨v, ev, hv⟩ := ho ⟨oi, ho6⟩
      have nro : ro ≠ q := hA.has n2
      refine ⟨ro, _, oi, v, rfl, rfl, SqL.of (s3 _ _ (fun z => nro (List.mem_singleton.mp z)) e2), atI_nat ev, (by show 3 ≤ sizeLine; decide), fun t ht => ?_⟩
      have ev3 : OrdAt K A3 v ⟨oi, ho6⟩ := by
        obtain ⟨pv, rfl, hpv⟩ := hv
        refine ⟨pv, rfl, ?_⟩
        rcases hpv with (h | ⟨o, h⟩) | h
        · exact .inl (.inl (s3 _ _ (fun z => by
            rw [List.mem_singleton.mp z] at h
            obtain ⟨_, _, _, e, _⟩ := hq2
            rw [e] at h
            cases h) h))
        · exact .inl (.inr ⟨o, s3 _ _ (fun z => by
            rw [List.mem_singleton.mp z] at h
            obtain ⟨_, _, _, e, _⟩ := hq2
            rw [e] at h
            cases h) h⟩)
        · exact .inr h
      have st := same_upd (u := .tup [.str "one", .str ns[i], v]) ht
      have hq4 : PurseAt (upd A3 t (.tup [.str "one", .str ns[i], v])) q (B + (i + 1)) := hq3.mono st
      have s14 : Sm [q] A1 (upd A3 t (.tup [.str "one", .str ns[i], v])) := (Same_sm s2).trans (s3.trans (Same_sm st))
      have eD4 := s14 D _ (fun z => nDq (List.mem_singleton.mp z)) eD
      have new : LayAt K (upd A3 t (.tup [.str "one", .str ns[i], v])) (.ref t) (.one ns[i] ⟨oi, ho6⟩) := ⟨v, ⟨t, rfl, SqT.of upd_same⟩, ev3.mono st⟩
      generalize upd A3 t (.tup [.str "one", .str ns[i], v]) = A4 at hq4 s14 eD4 new ⊢
      refine kt _ _ s14 (by rw [la]; exact Nat.lt_of_lt_of_le (show i < 13 by omega) (by decide)) hq4 ⟨by simp [la], Ls ++ [.one ns[i] ⟨oi, ho6⟩], paired_app (L2.Paired.mapP hLs fun _ _ z => LayAt.mono ?_ z) (.cons (lay_off (fun b m u e => ?_) new) .nil), ?_⟩
      · exact Sm.off fun b u nb h => s14 b u (fun z => nb (List.mem_cons_of_mem _ z)) h
      · rcases List.mem_cons.mp m with rfl | m
        · rw [eD4] at e
          exact ⟨_, (Option.some.inj e).symm⟩
        · rw [List.mem_singleton.mp m] at e
          obtain ⟨_, _, _, e4, _⟩ := hq4
          rw [e4] at e
          exact ⟨_, (Option.some.inj e).symm⟩
      · rw [List.flatMap_append, eLs, List.take_add_one, List.getElem?_eq_getElem hi]
        rfl
    · obtain ⟨la, Ls, hLs, eLs⟩ := hP
      rw [List.length_map] at la hA eLs
      rw [List.take_length] at eLs
      have nDH : H D = none := hD
      refine ⟨fun m σ A => ∃ us Ls u2 u3, σ = [some (.ref q), some (.ref p), some (.ref D), u2, u3, none] ∧ Sm [q] H A ∧ A D = some (.lst us) ∧ Paired (LayAt K (off [D, q] A)) us Ls ∧ (Ls.flatMap Lay.names).Perm ns ∧ 1 ≤ us.length ∧ us.length ≤ 12 ∧ m = us.length ∧ PurseAt A q (B + ns.length + 3 * (ns.length - us.length)) ∧ us.length ≤ ns.length, ⟨acc.length, acc, Ls, none, none, rfl, sA, eD, hLs, by rw [eLs], by omega, by omega, rfl, hA.up (by omega), by omega⟩, ?_⟩
      rintro m σ A4 ⟨us, Ms, u2, u3, rfl, s4, eD4, hMs, hpm, hu1, hu12, rfl, hq4, hun⟩
      have lMs := hMs.length
      refine ⟨_, rfl, D, _, rfl, .inl (SqL.of eD4), _, _, rfl, rfl, _, rfl, ite2 (fun hb => ?_) (fun hb => ?_)⟩
      · have hb2 : 2 ≤ us.length := by
          have := of_decide_eq_true hb
          omega
        refine ⟨fun σ A => ∃ us' Ls u2 u3, σ = [some (.ref q), some (.ref p), some (.ref D), u2, u3, none] ∧ Sm [q] H A ∧ A D = some (.lst us') ∧ Paired (LayAt K (off [D, q] A)) us' Ls ∧ (Ls.flatMap Lay.names).Perm ns ∧ us'.length = us.length - 1 ∧ PurseAt A q (B + ns.length + 3 * (ns.length - us'.length)), ?_, ?_⟩
        · rintro σ' A' ⟨us', Ls', w2, w3, rfl, z1, z2, z3, z4, z5, z6⟩
          exact ⟨us'.length, by omega, us', Ls', w2, w3, rfl, z1, z2, z3, z4, by omega, by omega, rfl, z6, by omega⟩
        · have step : ∀ (A A' : Hp) (us : List V) (Ms : List Lay) (i : Int), Sm [q] A A' → A' D = some (.lst us) → Paired (LayAt K (off [D, q] A)) us Ms → us.length ≤ 12 → 0 ≤ i → i < us.length → ∃ (j : Nat) (y : V) (L : Lay), i = (j : Int) ∧ j < us.length ∧ us[j]? = some y ∧ Ms[j]? = some L ∧ LayAt K (off [D, q] A') y L ∧ Paired (LayAt K (off [D, q] (upd A' D (.lst (us.eraseIdx j))))) (us.eraseIdx j) (Ms.eraseIdx j) ∧ seqIndex? i us.length = some j ∧ -(2 ^ 63) ≤ i ∧ i < 2 ^ 63 := by
            intro A A' us Ms i s e h h12 i0 i1
            obtain ⟨j, rfl⟩ := Int.eq_ofNat_of_zero_le i0
            have hj : j < us.length := by omega
            obtain ⟨L, eL, hL⟩ := Paired.at h (List.getElem?_eq_getElem hj)
            have sm : Same (off [D, q] A) (off [D, q] A') := Sm.off fun b u nb h => s b u (fun z => nb (List.mem_cons_of_mem _ z)) h
            refine ⟨j, us[j], L, rfl, hj, List.getElem?_eq_getElem hj, eL, hL.mono sm, ?_, ?_, by omega, ?_⟩
            · rw [off_upd (by simp)]
              exact paired_erase j (L2.Paired.mapP h fun _ _ z => LayAt.mono sm z)
            · refine (ixN_seq ?_).1
              unfold ixN
              rw [if_pos (by omega), if_pos (by omega)]
              rfl
            · omega
          refine ⟨_, rfl, .inl ⟨rfl, _, SqL.of eD4⟩, _, rfl, _, rfl, D, _, rfl, .inl (SqL.of eD4), q, _, _, rfl, hq4, by omega, by omega, by omega, fun A5 i1 s5 hq5 b0 b1 => ?_⟩
          have eD5 := s5 D _ (fun z => nDq (List.mem_singleton.mp z)) eD4
          obtain ⟨j1, y1, L1, rfl, hj1, ey1, eL1, hy1, hMs1, sx1, g1, g2⟩ := step A4 A5 us Ms i1 s5 eD5 hMs hu12 b0 b1
          refine ⟨D, us, _, j1, y1, rfl, rfl, eD5, g1, g2, sx1, ey1, ?_⟩
          have hq5' := hq5.put nDq (u := .lst (us.eraseIdx j1))
          have eD5' : (upd A5 D (.lst (us.eraseIdx j1))) D = some (.lst (us.eraseIdx j1)) := upd_same
          have s5' : Sm [q] H (upd A5 D (.lst (us.eraseIdx j1))) := sm_fresh (s4.trans s5) nDH
          have hy1' : LayAt K (off [D, q] (upd A5 D (.lst (us.eraseIdx j1)))) y1 L1 := by
            rw [off_upd (by simp)]
            exact hy1
          generalize upd A5 D (.lst (us.eraseIdx j1)) = B5 at hq5' eD5' s5' hy1' hMs1 ⊢
          have le1 : (us.eraseIdx j1).length = us.length - 1 := by rw [List.length_eraseIdx, if_pos hj1]
          refine ⟨_, rfl, .inl ⟨rfl, _, SqL.of eD5'⟩, _, rfl, _, rfl, D, _, rfl, .inl (SqL.of eD5'), q, _, _, rfl, hq5', by omega, by omega, by omega, fun A6 i2 s6 hq6 c0 c1 => ?_⟩
          have eD6 := s6 D _ (fun z => nDq (List.mem_singleton.mp z)) eD5'
          obtain ⟨j2, y2, M2, rfl, hj2, ey2, eL2, hy2, hMs2, sx2, g3, g4⟩ := step B5 A6 _ _ i2 s6 eD6 hMs1 (by omega) c0 c1
          refine ⟨D, _, _, j2, y2, rfl, rfl, eD6, g3, g4, sx2, ey2, ?_⟩
          have hq6' := hq6.put nDq (u := .lst ((us.eraseIdx j1).eraseIdx j2))
          have eD6' : (upd A6 D (.lst ((us.eraseIdx j1).eraseIdx j2))) D = some (.lst ((us.eraseIdx j1).eraseIdx j2)) := upd_same
          have s6' : Sm [q] H (upd A6 D (.lst ((us.eraseIdx j1).eraseIdx j2))) := sm_fresh (s5'.trans s6) nDH
          have off6 : off [D, q] (upd A6 D (.lst ((us.eraseIdx j1).eraseIdx j2))) = off [D, q] A6 := off_upd (by simp)
          have hy2' : LayAt K (off [D, q] (upd A6 D (.lst ((us.eraseIdx j1).eraseIdx j2)))) y2 M2 := by
            rw [off6]
            exact hy2
          have sm6 : Same (off [D, q] B5) (off [D, q] A6) := Sm.off fun b u nb h => s6 b u (fun z => nb (List.mem_cons_of_mem _ z)) h
          have hy1'' : LayAt K (off [D, q] (upd A6 D (.lst ((us.eraseIdx j1).eraseIdx j2)))) y1 L1 := by
            rw [off6]
            exact hy1'.mono sm6
          have le2 : ((us.eraseIdx j1).eraseIdx j2).length = us.length - 2 := by
            rw [List.length_eraseIdx, if_pos hj2]
            omega
          generalize upd A6 D (.lst ((us.eraseIdx j1).eraseIdx j2)) = B6 at hq6' eD6' s6' hy2' hy1'' hMs2 ⊢
          refine ⟨_, rfl, .inl ⟨rfl, _, SqL.of eD6'⟩, _, rfl, q, _, 3, rfl, hq6', by omega, by omega, by omega, fun A7 ax s7 hq7 d0 d1 => ?_⟩
          have sm7 : Same (off [D, q] B6) (off [D, q] A7) := Sm.off fun b u nb h => s7 b u (fun z => nb (List.mem_cons_of_mem _ z)) h
          have eD7 := s7 D _ (fun z => nDq (List.mem_singleton.mp z)) eD6'
          obtain ⟨ax, rfl⟩ := Int.eq_ofNat_of_zero_le d0
          have hax : ax < 3 := by omega
          refine ⟨_, rfl, _, rfl, (by show 4 ≤ sizeLine; decide), fun t ht => ?_⟩
          have nDt : t ≠ D := fun z => by rw [z, eD7] at ht; cases ht
          have ntq : t ≠ q := hq7.has ht
          have st := same_upd (u := .tup [.str "by", .int (ax : Int), y1, y2]) ht
          have eD8 : (upd A7 t (.tup [.str "by", .int (ax : Int), y1, y2])) D = _ := st _ _ eD7
          have hq8 := hq7.mono st
          have sm8 : Same (off [D, q] A7) (off [D, q] (upd A7 t (.tup [.str "by", .int (ax : Int), y1, y2]))) := off_mono st
          have et : (off [D, q] (upd A7 t (.tup [.str "by", .int (ax : Int), y1, y2]))) t = some (.tup [.str "by", .int (ax : Int), y1, y2]) := by
            rw [off_out (fun z => by rcases List.mem_cons.mp z with z | z; exact nDt z; exact ntq (List.mem_singleton.mp z))]
            exact upd_same
          have new : LayAt K (off [D, q] (upd A7 t (.tup [.str "by", .int (ax : Int), y1, y2]))) (.ref t) (.by_ ⟨ax, hax⟩ L1 M2) := ⟨y1, y2, ⟨t, rfl, SqT.of et⟩, hy1''.mono (sm7.trans sm8), hy2'.mono (sm7.trans sm8)⟩
          have s8 : Sm [q] H (upd A7 t (.tup [.str "by", .int (ax : Int), y1, y2])) := s6'.trans (s7.trans (Same_sm st))
          have sm68 := sm7.trans sm8
          generalize upd A7 t (.tup [.str "by", .int (ax : Int), y1, y2]) = B8 at eD8 hq8 new s8 sm68 ⊢
          refine ⟨D, _, _, rfl, rfl, eD8, Nat.lt_of_le_of_lt (show _ ≤ 12 by omega) (by decide), ?_⟩
          refine ⟨_, (Ms.eraseIdx j1).eraseIdx j2 ++ [.by_ ⟨ax, hax⟩ L1 M2], _, _, rfl, sm_fresh s8 nDH, upd_same, ?_, ?_, ?_, ?_⟩
          · rw [off_upd (by simp)]
            exact paired_app (L2.Paired.mapP hMs2 fun _ _ z => LayAt.mono sm68 z) (.cons new .nil)
          · rw [List.flatMap_append, List.flatMap_cons, List.flatMap_nil, List.append_nil]
            refine List.perm_append_comm.trans ?_
            show ((L1.names ++ M2.names) ++ _).Perm ns
            rw [List.append_assoc]
            exact ((flat_at Lay.names eL2).append_left _).trans ((flat_at Lay.names eL1).trans hpm)
          · rw [List.length_append, le2]
            show us.length - 2 + 1 = _
            omega
          · refine (hq8.put nDq).up ?_
            rw [List.length_append, le2]
            show _ ≤ B + ns.length + 3 * (ns.length - (us.length - 2 + 1))
            omega
      · have e1 : us.length = 1 := by
          have : ¬ ((us.length : Int) > 1) := fun z => hb (decide_eq_true z)
          omega
        obtain ⟨u, rfl⟩ := List.length_eq_one_iff.mp e1
        cases hMs with
        | cons r t =>
          cases t
          rename_i L
          refine ⟨_, rfl, D, _, 0, u, rfl, rfl, SqL.of eD4, rfl, k u A4 L s4 (hq4.up (by omega)) (r.mono off_le) ?_⟩
          rw [List.flatMap_cons, List.flatMap_nil, List.append_nil] at hpm
          exact hpm
end
end Bx
set_option Elab.async false
set_option linter.all false
set_option maxRecDepth 100000
set_option maxHeartbeats 1000000
/-! BxY4: the law's heaps. -/
namespace Bx
open PySem PySem.Spec PyProof.Rows L2
/-- a heap of parcels, its list apart from all that the parcels are -/
structure KpAt (K : PySem.W.Frag) (H : Hp) (a dx l : Addr) (vs : List V) (ps : List Par) : Prop where
  ins : H a = some (.ins (CH K) dx [("held", .ref l)])
  lst : H l = some (.lst vs)
  all : Paired (ParAt K (off [l] H)) vs ps
  few : ps.length ≤ 12
theorem KpAt.hp {K : PySem.W.Frag} {H : Hp} {a dx l : Addr} {vs : List V} {ps : List Par} (h : KpAt K H a dx l vs ps) : HpAt K H a dx l vs ps := ⟨h.ins, h.lst, L2.Paired.mapP h.all fun _ _ z => z.mono off_le, h.few⟩
theorem KpAt.mono {K : PySem.W.Frag} {H H' : Hp} (S : Same H H') {a dx l : Addr} {vs : List V} {ps : List Par} (h : KpAt K H a dx l vs ps) : KpAt K H' a dx l vs ps := ⟨S _ _ h.ins, S _ _ h.lst, L2.Paired.mapP h.all fun _ _ z => z.mono (off_mono S), h.few⟩
theorem Sm.wid {S S' : List Addr} {H H' : Hp} (h : Sm S H H') (k : ∀ b ∈ S, b ∈ S') : Sm S' H H' := fun b u n e => h b u (fun m => n (k b m)) e
theorem off_off {S S' : List Addr} {H : Hp} : off S (off S' H) = off (S ++ S') H := by
  funext b
  unfold off
  by_cases h1 : b ∈ S
  · rw [if_pos h1, if_pos (List.mem_append_left _ h1)]
  · by_cases h2 : b ∈ S'
    · rw [if_neg h1, if_pos h2, if_pos (List.mem_append_right _ h2)]
    · rw [if_neg h1, if_neg h2, if_neg fun m => by rcases List.mem_append.mp m with z | z; exact h1 z; exact h2 z]
/-- what is no tuple and no instance -/
def Dull (u : HO) : Prop := (∃ xs, u = .lst xs) ∨ (∃ o kvs, u = .frz o (.dK kvs)) ∨ (∃ kvs, u = .dK kvs) ∨ ∃ kvs, u = .dT kvs
theorem dull_ins {C dx : Addr} {fs : List (Str × V)} : ¬ Dull (.ins C dx fs) := fun h => by
  rcases h with ⟨_, h⟩ | ⟨_, _, h⟩ | ⟨_, h⟩ | ⟨_, h⟩ <;> cases h
theorem dull_tup {xs : List V} : ¬ Dull (.tup xs) := fun h => by
  rcases h with ⟨_, h⟩ | ⟨_, _, h⟩ | ⟨_, h⟩ | ⟨_, h⟩ <;> cases h
theorem dull_ftup {o : Obj} {xs : List V} : ¬ Dull (.frz o (.tup xs)) := fun h => by
  rcases h with ⟨_, h⟩ | ⟨_, _, h⟩ | ⟨_, h⟩ | ⟨_, h⟩ <;> cases h
theorem off_keep {H : Hp} {S : List Addr} (hS : ∀ b ∈ S, ∀ u, H b = some u → Dull u) {b : Addr} {u : HO} (e : H b = some u) (n : ¬ Dull u) : off S H b = some u := by
  rw [off_out fun m => n (hS b m u e)]
  exact e
theorem sqt_off {K : PySem.W.Frag} {H : Hp} {S : List Addr} (hS : ∀ b ∈ S, ∀ u, H b = some u → Dull u) {p : Addr} {xs : List V} (h : SqT K H p xs) : SqT K (off S H) p xs := by
  rcases h with (h | ⟨o, h⟩) | h
  · exact .inl (.inl (off_keep hS h dull_tup))
  · exact .inl (.inr ⟨o, off_keep hS h dull_ftup⟩)
  · exact .inr h
theorem sides_off {K : PySem.W.Frag} {H : Hp} {S : List Addr} (hS : ∀ b ∈ S, ∀ u, H b = some u → Dull u) {v : V} {t : T3} (h : SidesAt K H v t) : SidesAt K (off S H) v t := by
  obtain ⟨p, dx, q, h1, h2, h3⟩ := h
  exact ⟨p, dx, q, h1, off_keep hS h2 dull_ins, sqt_off hS h3⟩
theorem Sm.offr {S : List Addr} {H H' : Hp} (s : Sm S H H') : Same (Bx.off S H) H' := s.off.trans off_le
theorem PurseAt.dull {H : Hp} {q : Addr} {B : Nat} (h : PurseAt H q B) : ∀ b ∈ [q], ∀ u, H b = some u → Dull u := fun b m u e => by
  obtain ⟨_, _, _, z, _⟩ := h
  rw [List.mem_singleton.mp m, z] at e
  exact .inl ⟨_, (Option.some.inj e).symm⟩
theorem make_sides2 {K : PySem.W.Frag} {H : Hp} {Q : Addr → Hp → Prop} {E : XK} {t : T3} (ht : okT t) (k : ∀ x H', Same H H' → SidesAt K H' (.ref x) t → Q x H') : ∀ x dx, H x = none → H dx = none → dx ≠ x →
    spSInit K (.ref x :: ([.int t.x, .int t.y, .int t.z] ++ [])) (upd (upd H dx (.own x)) x (.ins (CS K) dx [])) (fun v H2 => v = .non ∧ Q x H2) E := by
  intro x dx a b c
  obtain ⟨x0, d, t0, h1, h2, h3, h4⟩ := make_sides (Q := fun v H2 => ∀ x, v = .ref x → Q x H2) (E := E) ht (fun v H' s h x e => k x H' s (by rw [← e]; exact h)) x dx a b c
  exact ⟨x0, d, t0, h1, h2, h3, fun H' q q1 q2 q3 => ⟨rfl, (h4 H' q q1 q2 q3).2 x rfl⟩⟩
theorem make_parcel2 {K : PySem.W.Frag} {H : Hp} {Q : Addr → Hp → Prop} {E : XK} {q : Par} {sv lv : V} {ls : List Str} {vs : List V} (hq : okPar q) (hm : q.marks = marksOf ls) (hs : SidesAt K H sv q.t) (hl : LabAt K H lv ls) (e : vs = [.str q.name, sv, .int q.wall, .int q.heavy, .int q.bears, lv]) (k : ∀ x H', Same H H' → ParN K H H' (.ref x) q → Q x H') :
    ∀ x dx, H x = none → H dx = none → dx ≠ x → spPInit K (.ref x :: vs) (upd (upd H dx (.own x)) x (.ins (CP K) dx [])) (fun v H2 => v = .non ∧ Q x H2) E := by
  intro x dx a b c
  obtain ⟨p0, d0, q0, sv0, lv0, ls0, h1, h2, h3, h4, h5, h6, h7⟩ := make_parcel (Q := fun v H2 => ∀ x, v = .ref x → Q x H2) (E := E) hq hm hs hl e (fun v H' s h x e => k x H' s (by rw [← e]; exact h)) x dx a b c
  exact ⟨p0, d0, q0, sv0, lv0, ls0, h1, h2, h3, h4, h5, h6, fun H' m q1 q2 q3 q4 => ⟨rfl, (h7 H' m q1 q2 q3 q4).2 x rfl⟩⟩
def lawMarks : List (List Str) := [[], ["alone"], ["upright", "top"], []]
theorem lawMarks_ok : ∀ ls ∈ lawMarks, ls.Nodup ∧ ls.length ≤ 3 ∧ ∀ x ∈ ls, x ∈ LAB := by decide +kernel
section
variable {P : Program} {w : World} {K : PySem.W.Frag} {mg : Str → Option Value} {base : Heap}
def spLHeap (K : PySem.W.Frag) : Sp := fun vs H Q _ => ∃ q B b S ns, vs = [.ref q, b] ∧ PurseAt H q B ∧ B ≤ 900000 ∧ BookAt (off [q] H) b S ns ∧ ns.length ≤ 12 ∧ ns.Nodup ∧ (∀ n ∈ ns, isName n ∧ okT (S n)) ∧
  ∀ a dx l xs ps H', Sm [q] H H' → PurseAt H' q (B + 36) → H l = none → KpAt K (off [q] H') a dx l xs ps → pNames ps = ns → SaysT S ps → Q (.ref a) H'
theorem sc__law_heap : FnScope ["_law_purse_here", "_law_book_here", "_law_kept", "_law_name", "_law_sides", "_law_marks", "_law_shut"] ["_law_purse_here", "_law_book_here"] (defScope s__law_heap) := ⟨rfl, rfl, rfl, by decide +kernel, rfl, by decide +kernel, by decide +kernel⟩
theorem F__law_heap (T : Env w K mg) : Fx P w K mg base "_law_heap" 5 ["_law_purse_here", "_law_book_here"] (spLHeap K) := by
  obtain ⟨fd, F⟩ := T.d__law_heap
  have F__law_take := F__law_take (P := P) (base := base) T
  have F_Heap_init := F_Heap_init (P := P) (base := base) T
  have F_Heap_put := F_Heap_put (P := P) (base := base) T
  have F_Parcel_init := F_Parcel_init (P := P) (base := base) T
  have F_Sides_init := F_Sides_init (P := P) (base := base) T
  refine ⟨_, fd, T.glo__law_heap, F.kp, F.bindsN fun _ _ _ _ _ _ us hl => match us, hl with | [_, _], _ => rfl, ?_⟩
  refine F.ok sc__law_heap (fun vs H Q E h => ?_) (fun cdv A outer s H vs Q E hr h => ?_)
  · obtain ⟨q, B, b, S, ns, rfl, _⟩ := h
    rfl
  · obtain ⟨q, B, b, S, ns, rfl, hq, hB, hb, h12, hnd, hok, k⟩ := h
    refine ⟨_, PSs.nox (pss_cons (ps_set (i := 2) sc__law_heap.nd rfl (Or.inl rfl) (pe_kx0 F_Heap_init (hr.mono (by decide)) rfl)) (pss_cons (ps_lock (ps_for PassesOwn.never rfl (pi_items (pv 1)) (pg_tup (by rfl) (pgs_cons (pg_name (i := 3) sc__law_heap.nd rfl (Or.inl rfl)) (pgs_cons (pg_name (i := 4) sc__law_heap.nd rfl (Or.inl rfl)) pgs_nil))) (pss_cons (ps_set (i := 5) sc__law_heap.nd rfl (Or.inl rfl) (pe_ix ix_list (pe_lst (pa_cons pe_non (pa_cons (pe_lst (pa_cons pe_str pa_nil)) (pa_cons (pe_tup (pa_cons pe_str (pa_cons pe_str pa_nil))) (pa_cons (pe_lst pa_nil) pa_nil))))) (pe_fx F__law_take (hr.mono (by decide)) rfl (pa_cons (pv 0) (pa_cons pe_int pa_nil))) (fun _ _ => rfl))) (pss_cons (ps_set (i := 6) sc__law_heap.nd rfl (Or.inl rfl) (pe_op op_add pe_int (pe_fx F__law_take (hr.mono (by decide)) rfl (pa_cons (pv 0) (pa_cons pe_int pa_nil))))) (pss_one (ps_expr (pe_mx T.cls_Heap F_Heap_put (hr.mono (by decide)) (pv 2) (pa_cons (pe_kx F_Parcel_init (hr.mono (by decide)) rfl (pa_cons (pv 3) (pa_cons (pe_kx F_Sides_init (hr.mono (by decide)) rfl (pa_cons (pe_ix ix_list (pv 4) pe_int (fun _ _ => rfl)) (pa_cons (pe_ix ix_list (pv 4) pe_int (fun _ _ => rfl)) (pa_cons (pe_ix ix_list (pv 4) pe_int (fun _ _ => rfl)) pa_nil)))) (pa_cons (pv 6) (pa_cons (pe_fx F__law_take (hr.mono (by decide)) rfl (pa_cons (pv 0) (pa_cons pe_int pa_nil))) (pa_cons pe_int (pa_cons (pv 5) pa_nil))))))) pa_nil)))))))) (pss_one (ps_ret (pv 2))))), ?_⟩
    obtain ⟨d, kvs, rfl, hd, hkvs⟩ := hb
    have ndq : d ≠ q := fun z => by rw [z, off_in (List.mem_singleton.mpr rfl)] at hd; cases hd
    intro a dx na ndx nadx
    refine ⟨a, dx, rfl, upd_same, fun H1 l s1 e1 n1 el => ⟨rfl, ?_⟩⟩
    have sH1 : Same H H1 := fun b u z => by
      refine s1 b u (fun m => ?_) ?_
      · rw [List.mem_singleton.mp m] at z
        rw [na] at z
        cases z
      · rw [upd_ne (ne_of_none z na), upd_ne (ne_of_none z ndx)]
        exact z
    have nl : H l = none := by
      cases z : H l with
      | none => rfl
      | some u =>
        have n1' := n1
        rw [upd_ne (ne_of_none z na), upd_ne (ne_of_none z ndx)] at n1'
        rw [n1'] at z
        cases z
    have hd1 : H1 d = some (.dK kvs) := sH1 _ _ (off_le _ _ hd)
    have nda : a ≠ d := fun z => by rw [z, off_le _ _ hd] at na; cases na
    have ndl : l ≠ d := fun z => by rw [z, off_le _ _ hd] at nl; cases nl
    have naq : a ≠ q := hq.has na
    have nlq : l ≠ q := hq.has nl
    have hq1 := hq.mono sH1
    have lk : kvs.length = ns.length := hkvs.length
    refine ⟨d, .dK kvs, hd1, trivial, fun od => ?_⟩
    refine ⟨_, rfl, d, od, kvs, rfl, upd_same, for_it walk_items (fun i σ H' => ∃ vs ps u1 u2 u3 u4, σ = [some (.ref q), some (.ref d), some (.ref a), u1, u2, u3, u4] ∧ Sm [q, d] H H' ∧ H' d = some (.frz od (.dK kvs)) ∧ PurseAt H' q (B + 3 * i) ∧ KpAt K (off [q, d] H') a dx l vs ps ∧ pNames ps = ns.take i ∧ SaysT S ps)
      ⟨[], [], none, none, none, none, rfl, ?_, upd_same, hq1.put ndq, ⟨?_, ?_, .nil, Nat.zero_le _⟩, by simp, fun _ h => by simp at h⟩ (fun i σ H' _ h => ?_) (fun i x σ A B2 hi h y => ?_) fun σ A h => ?_⟩
    · intro b u m z
      rw [upd_ne fun e => m (by rw [e]; simp)]
      exact sH1 _ _ z
    · rw [off_out (by simp [naq, nda]), upd_ne nda]
      exact e1
    · rw [off_out (by simp [nlq, ndl]), upd_ne ndl]
      exact el
    · obtain ⟨_, _, _, _, _, _, _, _, e, _⟩ := h
      exact e
    · obtain ⟨vs, ps, u1, u2, u3, u4, rfl, s2, ed2, hq2, hk2, hn2, hS2⟩ := h
      obtain ⟨T1, x1, x2, rfl, hT, rfl, ek, ev⟩ := y
      rw [lk] at hi
      have hik : i < kvs.length := by omega
      dsimp only at ek ev
      rw [List.getElem?_eq_getElem hik] at ek ev
      obtain ⟨n, en, hkey, r0, hr, hr0⟩ := Paired.at hkvs (List.getElem?_eq_getElem hik)
      have ek : x1 = .str n := by
        exact (Option.some.inj ek).symm.trans (congrArg kV hkey)
      have ev : x2 = .ref r0 := by
        exact (Option.some.inj ev).symm.trans hr
      subst ek ev
      have sT : Same A (upd A T1 (.tup [.str n, .ref r0])) := same_upd hT
      refine ⟨T1, _, rfl, SqT.of upd_same, rfl, _, _, rfl, _, _, rfl, rfl, ?_⟩
      have hqT := hq2.mono sT
      have hkT := hk2.mono (off_mono sT)
      have sHT : Sm [q, d] H (upd A T1 (.tup [.str n, .ref r0])) := s2.trans (Same_sm sT)
      have edT := sT _ _ ed2
      generalize upd A T1 (.tup [.str n, .ref r0]) = A1 at hqT hkT sHT edT
      have hr0A : ∀ {C : Hp}, Sm [q, d] H C → C r0 = some (.lst (S n).v) := fun s => s r0 _ (fun m => by
        rcases List.mem_cons.mp m with m | m
        · rw [m, off_in (List.mem_singleton.mpr rfl)] at hr0; cases hr0
        · rw [List.mem_singleton.mp m, hd] at hr0; cases hr0) (off_le _ _ hr0)
      have hn := hok n (List.mem_of_getElem? en)
      refine ⟨(by show 1 ≤ sizeLine; decide), fun l1 hl1 => ⟨(by show 2 ≤ sizeLine; decide), fun t1 ht1 => ⟨Nat.zero_le _, fun l2 hl2 => ⟨(by show 4 ≤ sizeLine; decide), fun l3 hl3 => ?_⟩⟩⟩⟩
      have sa := same_upd (u := .lst [V.str "alone"]) hl1
      have ea : (upd A1 l1 (.lst [V.str "alone"])) l1 = some (.lst [V.str "alone"]) := upd_same
      change (upd A1 l1 (.lst [V.str "alone"])) t1 = none at ht1
      change (upd (upd A1 l1 (.lst [V.str "alone"])) t1 (.tup [V.str "upright", V.str "top"])) l2 = none at hl2
      change (upd (upd (upd A1 l1 (.lst [V.str "alone"])) t1 (.tup [V.str "upright", V.str "top"])) l2 (.lst [])) l3 = none at hl3
      show tCall _ _ _ _ _ (upd (upd (upd (upd A1 l1 (.lst [V.str "alone"])) t1 (.tup [V.str "upright", V.str "top"])) l2 (.lst [])) l3 (.lst [.non, .ref l1, .ref t1, .ref l2])) _
      generalize upd A1 l1 (.lst [V.str "alone"]) = A2 at *
      have sb := same_upd (u := .tup [V.str "upright", V.str "top"]) ht1
      have eb : (upd A2 t1 (.tup [V.str "upright", V.str "top"])) t1 = some (.tup [V.str "upright", V.str "top"]) := upd_same
      generalize upd A2 t1 (.tup [V.str "upright", V.str "top"]) = A3 at *
      have sc := same_upd (u := .lst []) hl2
      have ec : (upd A3 l2 (.lst [])) l2 = some (.lst []) := upd_same
      generalize upd A3 l2 (.lst []) = A4 at *
      have sd := same_upd (u := .lst [.non, .ref l1, .ref t1, .ref l2]) hl3
      have e3 : (upd A4 l3 (.lst [.non, .ref l1, .ref t1, .ref l2])) l3 = some (.lst [.non, .ref l1, .ref t1, .ref l2]) := upd_same
      generalize upd A4 l3 (.lst [.non, .ref l1, .ref t1, .ref l2]) = A5 at *
      have s15 := sa.trans (sb.trans (sc.trans sd))
      have hq5 := hqT.mono s15
      refine ⟨_, rfl, q, _, 4, rfl, hq5, by omega, by decide, by decide, fun A6 mi s6 hq6 m0 m1 => ?_⟩
      have nq1 : l1 ≠ q := hqT.has hl1
      have nqt : t1 ≠ q := (hqT.mono sa).has ht1
      have nq2 : l2 ≠ q := (hqT.mono (sa.trans sb)).has hl2
      have nq3 : l3 ≠ q := (hqT.mono (sa.trans (sb.trans sc))).has hl3
      have nm : ∀ {b : Addr}, b ≠ q → b ∉ [q] := fun h m => h (List.mem_singleton.mp m)
      obtain ⟨v, ls, ev, hls, hlab⟩ : ∃ v ls, atI [.non, .ref l1, .ref t1, .ref l2] mi = some v ∧ ls ∈ lawMarks ∧ ∀ C, Sm [q] A5 C → LabAt K C v ls := by
        rcases (show mi = 0 ∨ mi = 1 ∨ mi = 2 ∨ mi = 3 by omega) with rfl | rfl | rfl | rfl
        · exact ⟨.non, [], rfl, by simp [lawMarks], fun C s => .inl ⟨rfl, rfl⟩⟩
        · refine ⟨.ref l1, ["alone"], rfl, by simp [lawMarks], fun C s => .inr ⟨l1, rfl, .inl (SqL.of (s _ _ (nm nq1) (sd _ _ (sc _ _ (sb _ _ ea))))), lawMarks_ok _ (by simp [lawMarks])⟩⟩
        · refine ⟨.ref t1, ["upright", "top"], rfl, by simp [lawMarks], fun C s => .inr ⟨t1, rfl, .inr (SqT.of (s _ _ (nm nqt) (sd _ _ (sc _ _ eb)))), lawMarks_ok _ (by simp [lawMarks])⟩⟩
        · refine ⟨.ref l2, [], rfl, by simp [lawMarks], fun C s => .inr ⟨l2, rfl, .inl (SqL.of (s _ _ (nm nq2) (sd _ _ ec))), lawMarks_ok _ (by simp [lawMarks])⟩⟩
      refine ⟨l3, _, mi, v, rfl, rfl, SqL.of (s6 _ _ (nm nq3) e3), ev, ?_⟩
      refine ⟨_, rfl, q, _, 1000, rfl, hq6, by omega, by decide, by decide, fun A7 sh s7 hq7 h0 h1 => ⟨_, _, rfl, rfl, ?_⟩⟩
      have s17 : Sm [q] A1 A7 := (Same_sm s15).trans (s6.trans s7)
      have wid : ∀ {C C' : Hp}, Sm [q] C C' → Same (off [q, d] C) (off [q, d] C') := fun s => Sm.off (s.wid fun b m => by rw [List.mem_singleton.mp m]; simp)
      have hk7 := hkT.mono (wid s17)
      have sH7 : Sm [q, d] H A7 := sHT.trans (s17.wid fun b m => by rw [List.mem_singleton.mp m]; simp)
      refine ⟨_, rfl, a, dx, _, rfl, off_le _ _ hk7.ins, rfl, ?_⟩
      have x0 : atI (T3.v (S n)) 0 = some (.int (S n).x) := rfl
      have x1 : atI (T3.v (S n)) 1 = some (.int (S n).y) := rfl
      have x2 : atI (T3.v (S n)) 2 = some (.int (S n).z) := rfl
      have er7 := hr0A sH7
      refine ⟨_, rfl, _, rfl, r0, _, 0, _, rfl, rfl, SqL.of er7, x0, _, rfl, r0, _, 1, _, rfl, rfl, SqL.of er7, x1, _, rfl, r0, _, 2, _, rfl, rfl, SqL.of er7, x2, ?_⟩
      refine make_sides2 hn.2 fun sv A8 s8 hsv => ?_
      have hq8 := hq7.mono s8
      refine ⟨_, rfl, _, rfl, q, _, 100001, rfl, hq8, by omega, by decide, by decide, fun A9 hv s9 hq9 v0 v1 => ?_⟩
      have hsv9 : SidesAt K A9 (.ref sv) (S n) := (sides_off hq8.dull hsv).mono s9.offr
      have hlab9 : LabAt K A9 v ls := hlab A9 (s6.trans (s7.trans ((Same_sm s8).trans s9)))
      refine ⟨_, rfl, ?_⟩
      refine make_parcel2 (q := ⟨n, S n, 1 + sh, hv, 7, marksOf ls⟩) (sv := .ref sv) (lv := v) (ls := ls) ⟨hn.1, hn.2, ⟨by show 1 ≤ 1 + sh; omega, by show 1 + sh ≤ 1000; omega⟩, ⟨v0, by show hv ≤ 100000; omega⟩, ⟨by show (0 : Int) ≤ 7; decide, by show (7 : Int) ≤ 100000; decide⟩, ls, rfl⟩ rfl hsv9 hlab9 rfl fun pv C sC hpv => ?_
      have s19 : Sm [q] A1 C := s17.trans ((Same_sm s8).trans (s9.trans (Same_sm sC)))
      have hkC := hkT.mono (wid s19)
      have hk9 := hkT.mono (wid (s17.trans ((Same_sm s8).trans s9)))
      have hqC := hq9.mono sC
      have edC : C d = some (.frz od (.dK kvs)) := s19 d _ (nm ndq) edT
      have ed9 : A9 d = some (.frz od (.dK kvs)) := (s17.trans ((Same_sm s8).trans s9)) d _ (nm ndq) edT
      have elC : C l = some (.lst vs) := off_le _ _ hkC.lst
      have el9 : A9 l = some (.lst vs) := off_le _ _ hk9.lst
      have hkCo : KpAt K C a dx l vs ps := hkC.mono off_le
      have dl : ∀ b ∈ [l] ++ [q, d], ∀ u, C b = some u → Dull u := fun b m u e => by
        rcases List.mem_append.mp m with m | m
        · rw [List.mem_singleton.mp m, elC] at e
          exact .inl ⟨_, (Option.some.inj e).symm⟩
        · rcases List.mem_cons.mp m with m | m
          · exact hqC.dull b (List.mem_singleton.mpr m) u e
          · rw [List.mem_singleton.mp m, edC] at e
            exact .inr (.inl ⟨_, _, (Option.some.inj e).symm⟩)
      have pl : ps.length = i := by
        have e := congrArg List.length hn2
        rw [List.length_map, List.length_take] at e
        omega
      have nin : n ∉ pNames ps := by
        rw [hn2]
        exact take_not hnd en
      refine ⟨a, dx, l, vs, ps, .ref pv, ⟨n, S n, 1 + sh, hv, 7, marksOf ls⟩, rfl, hkCo.hp, hpv.at_, nin, by omega, fun C2 sC2 eC2 => ?_⟩
      have offs : Same (off [l] (off [q, d] C)) (off [l] (off [q, d] C2)) := by
        rw [off_off, off_off]
        exact Sm.off (sC2.wid fun b m => by rw [List.mem_singleton.mp m]; simp)
      have offq : ∀ {b : Addr} {u : HO}, b ≠ l → off [q, d] C b = some u → off [q, d] C2 b = some u := fun {b u} n e => by
        have mm : b ∉ [q, d] := fun y => by rw [off_in y] at e; cases e
        rw [off_out mm] at e ⊢
        exact sC2 b u (fun m => n (List.mem_singleton.mp m)) e
      have nal : a ≠ l := fun z => by
        have e := hkC.ins
        rw [z, hkC.lst] at e
        cases e
      refine ⟨vs ++ [.ref pv], ps ++ [⟨n, S n, 1 + sh, hv, 7, marksOf ls⟩], _, _, _, _, rfl, ?_, ?_, ?_, ⟨offq nal hkC.ins, ?_, ?_, ?_⟩, ?_, ?_⟩
      · have s1C : Sm [q, d] H C := sHT.trans (s19.wid fun b m => by rw [List.mem_singleton.mp m]; simp)
        intro b u m z
        refine sC2 b u (fun y => ?_) (s1C b u m z)
        rw [List.mem_singleton.mp y, nl] at z
        cases z
      · exact sC2 d _ (fun m => ndl (List.mem_singleton.mp m).symm) edC
      · obtain ⟨x, y, z, e, r⟩ := hqC
        refine ⟨x, y, z, sC2 q _ (fun m => nlq (List.mem_singleton.mp m).symm) e, ?_⟩
        obtain ⟨r1, r2, r3, r4, r5⟩ := r
        exact ⟨r1, r2, r3, r4, by omega⟩
      · rw [off_out (by simp [nlq, ndl])]
        exact eC2
      · refine paired_app (L2.Paired.mapP hkC.all fun _ _ z => z.mono offs) (.cons ?_ .nil)
        obtain ⟨pa, pdx, psv, m, ⟨⟩, hpa, hps, hm0, hm1⟩ := hpv
        refine ParAt.mono offs ?_
        rw [off_off]
        refine ⟨pv, pdx, psv, m, rfl, off_keep dl hpa dull_ins, sides_off dl hps, ?_⟩
        rw [off_out fun y => ?_]
        · exact hm1
        · rcases List.mem_append.mp y with y | y
          · rw [List.mem_singleton.mp y, el9] at hm0
            cases hm0
          · rcases List.mem_cons.mp y with y | y
            · obtain ⟨_, _, _, e, _⟩ := hq9
              rw [y, e] at hm0
              cases hm0
            · rw [List.mem_singleton.mp y, ed9] at hm0
              cases hm0
      · rw [List.length_append, pl]
        show i + 1 ≤ 12
        omega
      · rw [show pNames (ps ++ [(⟨n, S n, 1 + sh, hv, 7, marksOf ls⟩ : Par)]) = pNames ps ++ [n] by simp [pNames], hn2, List.take_add_one, en]
        rfl
      · intro p hp
        rcases List.mem_append.mp hp with z | z
        · exact hS2 p z
        · rw [List.mem_singleton.mp z]
          exact ⟨rfl, hn.1, hn.2, ⟨by show 1 ≤ 1 + sh; omega, by show 1 + sh ≤ 1000; omega⟩, ⟨v0, by show hv ≤ 100000; omega⟩, ⟨by show (0 : Int) ≤ 7; decide, by show (7 : Int) ≤ 100000; decide⟩, ls, rfl⟩
    · obtain ⟨vs, ps, u1, u2, u3, u4, rfl, s2, ed2, hq2, hk2, hn2, hS2⟩ := h
      rw [lk] at hq2 hn2
      rw [List.take_length] at hn2
      refine ⟨ed2, _, rfl, k a dx l vs ps _ ?_ ((hq2.put ndq).up (by omega)) nl (hk2.mono ?_) hn2 hS2⟩
      · intro b u m z
        by_cases e : b = d
        · rw [e] at z ⊢
          rw [upd_same, ← off_le _ _ hd, z]
        · rw [upd_ne e]
          exact s2 _ _ (fun y => by rcases List.mem_cons.mp y with y | y; exact m (List.mem_singleton.mpr y); exact e (List.mem_singleton.mp y)) z
      · intro b u z
        have mm : b ∉ [q, d] := fun y => by rw [off_in y] at z; cases z
        rw [off_out mm] at z
        rw [off_out (fun y => mm (by rw [List.mem_singleton.mp y]; simp)), upd_ne fun y => mm (by rw [y]; simp)]
        exact z
end
end Bx
set_option Elab.async false
set_option linter.all false
set_option maxRecDepth 100000
set_option maxHeartbeats 1000000
/-! BxY5: the law's books. -/
namespace Bx
open PySem PySem.Spec PyProof.Rows L2
def putS (S : Str → T3) (n : Str) (t : T3) : Str → T3 := fun m => if m = n then t else S m
theorem book_new {H : Hp} {S : Str → T3} {n : Str} : ∀ {kvs : List (Key × V)} {ns : List Str}, Paired (BookEnt H S) kvs ns → n ∉ ns → valV kvs (Sum.inr n) = none
  | _, _, .nil, _ => rfl
  | kv :: kvs, m :: ns, .cons r t, h => by
    rw [valV_neg (fun z => h (List.mem_cons.mpr (.inl ((Sum.inr.inj (r.1.symm.trans z)).symm)))), book_new t fun z => h (List.mem_cons_of_mem _ z)]
theorem book_same {H : Hp} {S S' : Str → T3} : ∀ {kvs : List (Key × V)} {ns : List Str}, Paired (BookEnt H S) kvs ns → (∀ n ∈ ns, S n = S' n) → Paired (BookEnt H S') kvs ns
  | _, _, .nil, _ => .nil
  | kv :: kvs, m :: ns, .cons r t, h => .cons ⟨r.1, by rw [← h m (List.mem_cons_self ..)]; exact r.2⟩ (book_same t fun n hn => h n (List.mem_cons_of_mem _ hn))
theorem book_map {H : Hp} {S : Str → T3} {n : Str} {v : V} {t : T3} (hv : L3At H v t) : ∀ {kvs : List (Key × V)} {ns : List Str}, Paired (BookEnt H S) kvs ns → Paired (BookEnt H (putS S n t)) (kvs.map fun kv => if kv.1 = Sum.inr n then (kv.1, v) else kv) ns
  | _, _, .nil => .nil
  | kv :: kvs, m :: ns, .cons r u => by
    refine .cons ?_ (book_map hv u)
    dsimp only
    by_cases e : m = n
    · subst e
      rw [if_pos r.1]
      refine ⟨r.1, ?_⟩
      unfold putS
      rw [if_pos rfl]
      exact hv
    · rw [if_neg fun z => e (Sum.inr.inj (r.1.symm.trans z))]
      refine ⟨r.1, ?_⟩
      unfold putS
      rw [if_neg e]
      exact r.2
theorem book_put {H : Hp} {S : Str → T3} {n : Str} {v : V} {t : T3} (hv : L3At H v t) {kvs : List (Key × V)} {ns : List Str} (h : Paired (BookEnt H S) kvs ns) (hn : n ∈ ns) : Paired (BookEnt H (putS S n t)) (putK kvs (Sum.inr n) v) ns := by
  obtain ⟨w, e, _⟩ := book_get h hn
  unfold putK
  rw [if_pos]
  · exact book_map hv h
  · obtain ⟨i, hi⟩ := List.getElem?_of_mem hn
    obtain ⟨kv, ekv, hkv⟩ := Paired.at' h hi
    exact List.any_eq_true.mpr ⟨kv, List.mem_of_getElem? ekv, decide_eq_true hkv.1⟩
theorem ents_mono {H H' : Hp} (s : Same H H') {S : Str → T3} {kvs : List (Key × V)} {ns : List Str} (h : Paired (BookEnt H S) kvs ns) : Paired (BookEnt H' S) kvs ns := L2.Paired.mapP h fun _ _ z => ⟨z.1, z.2.mono s⟩
def lawForms : List T3 := [⟨4, 2, 11⟩, ⟨3, 2, 11⟩, ⟨6, 3, 11⟩, ⟨1, 3, 11⟩]
theorem forms_ok : ∀ t ∈ lawForms, ∀ k : Fin 3, 1 ≤ t.get k ∧ t.get k ≤ 11 := by decide +kernel
section
variable {P : Program} {w : World} {K : PySem.W.Frag} {mg : Str → Option Value} {base : Heap}
/-- a book whose sides are small for so many -/
def SmallS (S : Str → T3) (hs : List Str) (m : Nat) : Prop := ∀ n ∈ hs, ∀ k, 1 ≤ (S n).get k ∧ (S n).get k * (m : Int) ≤ 100000
def spBook (K : PySem.W.Frag) : Sp := fun vs H Q _ => ∃ q B h p hs ns, vs = [.ref q, .ref h, .ref p] ∧ PurseAt H q B ∧ B ≤ 800000 ∧ h ≠ q ∧ p ≠ q ∧ SqL K H h ((hs : List Str).map V.str) ∧ SqL K H p ((ns : List Str).map V.str) ∧ hs.Nodup ∧ hs.length ≤ 12 ∧ 1 ≤ ns.length ∧ ns.length ≤ 4 ∧ (∀ n ∈ ns, n ∈ hs) ∧
  ∀ d S H', Sm [q] H H' → PurseAt H' q (B + 100) → H d = none → BookAt (off [q] H') (.ref d) S hs → SmallS S hs ns.length → Q (.ref d) H'
theorem sc__law_book : FnScope ["_law_purse_here", "_law_held_here", "_law_names_here", "_law_forms", "_law_most", "_law_bricks", "_law_book_here", "_law_name", "_law_times", "_law_brick", "_law_order", "_law_number"] ["_law_purse_here", "_law_held_here", "_law_names_here"] (defScope s__law_book) := ⟨rfl, rfl, rfl, by decide +kernel, rfl, by decide +kernel, by decide +kernel⟩
theorem F__law_book (T : Env w K mg) : Fx P w K mg base "_law_book" 3 ["_law_purse_here", "_law_held_here", "_law_names_here"] (spBook K) := by
  obtain ⟨fd, F⟩ := T.d__law_book
  have F__law_take := F__law_take (P := P) (base := base) T
  have F__law_three := F__law_three (P := P) (base := base) T
  have F__law_picked := F__law_picked (P := P) (base := base) T
  have F__law_orders := F__law_orders (P := P) (base := base) T
  refine ⟨_, fd, T.glo__law_book, F.kp, F.bindsN fun _ _ _ _ _ _ us hl => match us, hl with | [_, _, _], _ => rfl, ?_⟩
  refine F.ok sc__law_book (fun vs H Q E h => ?_) (fun cdv A outer s H vs Q E hr h => ?_)
  · obtain ⟨q, B, h, p, hs, ns, rfl, _⟩ := h
    rfl
  · obtain ⟨q, B, h, p, hs, ns, rfl, hq, hB, nhq, npq, hh, hp, hnd, h12, h1, h4, hin, k⟩ := h
    refine ⟨_, PSs.nox (pss_cons (ps_set (i := 3) sc__law_book.nd rfl (Or.inl rfl) (pe_tup (pa_cons (pe_tup (pa_cons pe_int (pa_cons pe_int (pa_cons pe_int pa_nil)))) (pa_cons (pe_tup (pa_cons pe_int (pa_cons pe_int (pa_cons pe_int pa_nil)))) (pa_cons (pe_tup (pa_cons pe_int (pa_cons pe_int (pa_cons pe_int pa_nil)))) (pa_cons (pe_tup (pa_cons pe_int (pa_cons pe_int (pa_cons pe_int pa_nil)))) pa_nil)))))) (C8.pss_cut (ps_set (i := 4) sc__law_book.nd rfl (Or.inl rfl) (pe_ifExp (pt_cmpR op_eq (pe_callB call_len_seq (by rfl) T.free_len (by decide +kernel) (pa_cons (pv 2) pa_nil)) pe_int (nomark _)) pe_int (pe_op op_fdiv pe_int (pe_callB call_len_seq (by rfl) T.free_len (by decide +kernel) (pa_cons (pv 2) pa_nil))))) (C8.pss_cut (ps_set (i := 5) sc__law_book.nd rfl (Or.inl rfl) (pe_and (pe_cmpR op_eq (pe_callB call_len_seq (by rfl) T.free_len (by decide +kernel) (pa_cons (pv 2) pa_nil)) pe_int (nomark _)) (pe_one (pe_cmpR op_eq (pe_fx F__law_take (hr.mono (by decide)) rfl (pa_cons (pv 0) (pa_cons pe_int pa_nil))) pe_int (nomark _))))) (pss_cons (ps_set (i := 6) sc__law_book.nd rfl (Or.inl rfl) pe_dnewK) (pss_cons (ps_for PassesOwn.never rfl (pi_list (pv 1)) (pg_name (i := 7) sc__law_book.nd rfl (Or.inl rfl)) (pss_one (ps_dput (hu_of hr) (pv 6) (pv 7) (pe_fx F__law_three (hr.mono (by decide)) rfl (pa_cons (pv 0) (pa_cons (pv 4) pa_nil))) rfl))) (C8.pss_cut (ps_set (i := 8) sc__law_book.nd rfl (Or.inr rfl) (pe_ifExp (pt_truth (pv 5) (by intro _; rfl)) (pe_op op_add pe_int (pe_fx F__law_take (hr.mono (by decide)) rfl (pa_cons (pv 0) (pa_cons pe_int pa_nil)))) pe_int)) (pss_cons (ps_for PassesOwn.never rfl (pi_zipLT (by rfl) T.free_zip (pa_cons (pe_fx F__law_picked (hr.mono (by decide)) rfl (pa_cons (pv 0) (pa_cons (pv 2) (pa_cons (pe_callB call_len_seq (by rfl) T.free_len (by decide +kernel) (pa_cons (pv 2) pa_nil)) pa_nil)))) (pa_cons (pv 3) pa_nil))) (pg_tup (by rfl) (pgs_cons (pg_name (i := 7) sc__law_book.nd rfl (Or.inl rfl)) (pgs_cons (pg_name (i := 9) sc__law_book.nd rfl (Or.inr rfl)) pgs_nil))) (pss_cons (ps_set (i := 10) sc__law_book.nd rfl (Or.inl rfl) (pe_ix ix_list (pe_fx0 F__law_orders (hr.mono (by decide)) rfl) (pe_fx F__law_take (hr.mono (by decide)) rfl (pa_cons (pv 0) (pa_cons pe_int pa_nil))) (fun _ _ => rfl))) (pss_one (ps_if (pt_truth (pv 5) (by intro _; rfl)) (pss_one (ps_dput (hu_of hr) (pv 6) (pv 7) (pe_lc (own := [("_law_number", 11)]) (g := gName 11) (tt := tYes) (by rfl) sc__law_book.nd (pi_tup (pv 10)) (blkOk_by (own := [("_law_number", 11)]) (N := ["_law_purse_here", "_law_held_here", "_law_names_here", "_law_forms", "_law_most", "_law_bricks", "_law_book_here", "_law_name", "_law_times", "_law_brick", "_law_order", "_law_number"]) (sc := defScope s__law_book) (by decide +kernel)) (fun _ _ _ _ _ => (pg_name (i := 11) sc__law_book.nd rfl (Or.inl rfl))) (fun _ _ _ _ _ => pts_nil) (fun _ _ _ _ _ => (pe_op op_mul (pe_ix (ix_tupK K) (pv 9) (pv 11) (fun _ _ => rfl)) (pv 8)))) rfl)) pss_nil)))) (pss_one (ps_ret (pv 6)))))))))), ?_⟩
    refine ⟨(by show 3 ≤ sizeLine; decide), fun f0 hf0 => ⟨(by show 3 ≤ sizeLine; decide), fun f1 hf1 => ⟨(by show 3 ≤ sizeLine; decide), fun f2 hf2 => ⟨(by show 3 ≤ sizeLine; decide), fun f3 hf3 => ⟨(by show 4 ≤ sizeLine; decide), fun ft hft => ?_⟩⟩⟩⟩⟩
    have fact : ∃ H1, Same H H1 ∧ H1 = upd (upd (upd (upd (upd H f0 (.tup (T3.v ⟨4, 2, 11⟩))) f1 (.tup (T3.v ⟨3, 2, 11⟩))) f2 (.tup (T3.v ⟨6, 3, 11⟩))) f3 (.tup (T3.v ⟨1, 3, 11⟩))) ft (.tup [.ref f0, .ref f1, .ref f2, .ref f3]) ∧ H1 ft = some (.tup [.ref f0, .ref f1, .ref f2, .ref f3]) ∧ Paired (fun v t => ∃ r, v = V.ref r ∧ H1 r = some (.tup (T3.v t))) [.ref f0, .ref f1, .ref f2, .ref f3] lawForms := by
      change (upd H f0 (.tup (T3.v ⟨4, 2, 11⟩))) f1 = none at hf1
      change (upd (upd H f0 (.tup (T3.v ⟨4, 2, 11⟩))) f1 (.tup (T3.v ⟨3, 2, 11⟩))) f2 = none at hf2
      change (upd (upd (upd H f0 (.tup (T3.v ⟨4, 2, 11⟩))) f1 (.tup (T3.v ⟨3, 2, 11⟩))) f2 (.tup (T3.v ⟨6, 3, 11⟩))) f3 = none at hf3
      change (upd (upd (upd (upd H f0 (.tup (T3.v ⟨4, 2, 11⟩))) f1 (.tup (T3.v ⟨3, 2, 11⟩))) f2 (.tup (T3.v ⟨6, 3, 11⟩))) f3 (.tup (T3.v ⟨1, 3, 11⟩))) ft = none at hft
      refine ⟨_, ?_, rfl, upd_same, ?_⟩
      · exact (same_upd hf0).trans ((same_upd hf1).trans ((same_upd hf2).trans ((same_upd hf3).trans (same_upd hft))))
      · generalize e0 : upd H f0 (.tup (T3.v ⟨4, 2, 11⟩)) = G0 at *
        have x0 : G0 f0 = some (.tup (T3.v ⟨4, 2, 11⟩)) := by rw [← e0]; exact upd_same
        have s1 := same_upd (u := .tup (T3.v ⟨3, 2, 11⟩)) hf1
        have x1 : (upd G0 f1 (.tup (T3.v ⟨3, 2, 11⟩))) f1 = some (.tup (T3.v ⟨3, 2, 11⟩)) := upd_same
        generalize upd G0 f1 (.tup (T3.v ⟨3, 2, 11⟩)) = G1 at *
        have s2 := same_upd (u := .tup (T3.v ⟨6, 3, 11⟩)) hf2
        have x2 : (upd G1 f2 (.tup (T3.v ⟨6, 3, 11⟩))) f2 = some (.tup (T3.v ⟨6, 3, 11⟩)) := upd_same
        generalize upd G1 f2 (.tup (T3.v ⟨6, 3, 11⟩)) = G2 at *
        have s3 := same_upd (u := .tup (T3.v ⟨1, 3, 11⟩)) hf3
        have x3 : (upd G2 f3 (.tup (T3.v ⟨1, 3, 11⟩))) f3 = some (.tup (T3.v ⟨1, 3, 11⟩)) := upd_same
        generalize upd G2 f3 (.tup (T3.v ⟨1, 3, 11⟩)) = G3 at *
        have s4 := same_upd (u := .tup [.ref f0, .ref f1, .ref f2, .ref f3]) hft
        exact .cons ⟨_, rfl, s4 _ _ (s3 _ _ (s2 _ _ (s1 _ _ x0)))⟩ (.cons ⟨_, rfl, s4 _ _ (s3 _ _ (s2 _ _ x1))⟩ (.cons ⟨_, rfl, s4 _ _ (s3 _ _ x2)⟩ (.cons ⟨_, rfl, s4 _ _ x3⟩ .nil)))
    obtain ⟨H1, s1, eH1, eft, hfs⟩ := fact
    show tSeq _ _ _ _ (upd (upd (upd (upd (upd H f0 (.tup (T3.v ⟨4, 2, 11⟩))) f1 (.tup (T3.v ⟨3, 2, 11⟩))) f2 (.tup (T3.v ⟨6, 3, 11⟩))) f3 (.tup (T3.v ⟨1, 3, 11⟩))) ft (.tup [.ref f0, .ref f1, .ref f2, .ref f3]))
    rw [← eH1]
    clear eH1 hf0 hf1 hf2 hf3 hft
    have stayL : ∀ {A : Hp} {r : Addr} {xs : List V}, r ≠ q → SqL K H r xs → Sm [q] H A → SqL K A r xs := fun {A r xs} n hr s => by
      rcases hr with (h | ⟨o, h⟩) | h
      · exact .inl (.inl (s _ _ (fun z => n (List.mem_singleton.mp z)) h))
      · exact .inl (.inr ⟨o, s _ _ (fun z => n (List.mem_singleton.mp z)) h⟩)
      · exact .inr h
    have hq1 := hq.mono s1
    have lns : (ns.map V.str).length = ns.length := List.length_map ..
    refine ⟨fun σ' A => ∃ M : Int, σ' = [some (.ref q), some (.ref h), some (.ref p), some (.ref ft), some (.int M), none, none, none, none, none, none, none] ∧ A = H1 ∧ 12 ≤ M ∧ M ≤ 100000 ∧ M * (ns.length : Int) ≤ 100000, ?_, ?_⟩
    · refine ⟨_, rfl, p, _, rfl, .inl (stayL npq hp (Same_sm s1)), ?_⟩
      rw [lns]
      refine ⟨rfl, _, rfl, ite2 (fun hb => ?_) (fun hb => ?_)⟩
      · have e4 : ns.length = 4 := by
          have e := of_decide_eq_true hb
          injection e with e
          omega
        exact ⟨12, rfl, rfl, by decide, by decide, by rw [e4]; decide⟩
      · refine ⟨_, rfl, p, _, rfl, .inl (stayL npq hp (Same_sm s1)), ?_⟩
        rw [lns]
        refine ⟨_, _, rfl, rfl, ⟨by omega, by omega⟩, _, rfl, rfl, ?_, ?_, ?_⟩
        · rcases (show ns.length = 1 ∨ ns.length = 2 ∨ ns.length = 3 ∨ ns.length = 4 by omega) with e | e | e | e <;> rw [e] <;> decide
        · rcases (show ns.length = 1 ∨ ns.length = 2 ∨ ns.length = 3 ∨ ns.length = 4 by omega) with e | e | e | e <;> rw [e] <;> decide
        · rcases (show ns.length = 1 ∨ ns.length = 2 ∨ ns.length = 3 ∨ ns.length = 4 by omega) with e | e | e | e <;> rw [e] <;> decide
    rintro σ' A ⟨M, rfl, rfl, hM1, hM2, hM3⟩
    refine ⟨fun σ' C => ∃ bk : Bool, σ' = [some (.ref q), some (.ref h), some (.ref p), some (.ref ft), some (.int M), some (.bl bk), none, none, none, none, none, none] ∧ Sm [q] A C ∧ PurseAt C q (B + 1) ∧ (bk = true → ns.length = 4), ?_, ?_⟩
    · refine ⟨_, rfl, p, _, rfl, .inl (stayL npq hp (Same_sm s1)), ?_⟩
      rw [lns]
      refine ⟨rfl, _, rfl, ite2 (fun hb => ?_) (fun hb => ?_)⟩
      · have e4 : ns.length = 4 := by
          have e := of_decide_eq_true hb
          injection e with e
          omega
        refine ⟨_, rfl, q, B, 2, rfl, hq1, by omega, by decide, by decide, fun A2 x s2 hq2 x0 x1 => ⟨rfl, _, rfl, s2, hq2, fun _ => e4⟩⟩
      · exact ⟨_, rfl, Sm.refl, hq1.up (by omega), fun z => nomatch z⟩
    rintro σ' C ⟨bk, rfl, sAC, hqC, hbk⟩
    intro d hd
    have sHC : Sm [q] H C := (Same_sm s1).trans sAC
    have nd : H d = none := hqC.back sHC hd
    have ndq : d ≠ q := hqC.has hd
    have nm : ∀ {b : Addr}, b ≠ q → b ∉ [q] := fun h m => h (List.mem_singleton.mp m)
    have stay : ∀ {A : Hp} {r : Addr} {xs : List V}, r ≠ q → SqL K H r xs → Sm [q] H A → SqL K A r xs := fun n hr s => stayL n hr s
    refine ⟨_, rfl, h, rfl, ⟨_, stay nhq hh (sm_fresh sHC nd)⟩, for_it (walk_list (xs := hs.map V.str)) (fun i σ E => ∃ kvs S u7, σ = [some (.ref q), some (.ref h), some (.ref p), some (.ref ft), some (.int M), some (.bl bk), some (.ref d), u7, none, none, none, none] ∧ Sm [q] H E ∧ Sm [q] A E ∧ PurseAt E q (B + 1 + 6 * i) ∧ E d = some (.dK kvs) ∧ Paired (BookEnt (off [q, d] E) S) kvs (hs.take i) ∧ ∀ n ∈ hs.take i, ∀ k, 1 ≤ (S n).get k ∧ (S n).get k ≤ M)
      ⟨[], fun _ => ⟨0, 0, 0⟩, none, rfl, sm_fresh sHC nd, ?_, hqC.put ndq, upd_same, by rw [List.take_zero]; exact .nil, fun n hn => by simp at hn⟩ (fun i σ E _ hE => ?_) (fun i x σ E E' hi hE y => ?_) fun σ E hE => ?_⟩
    · refine sm_fresh sAC ?_
      cases z : A d with
      | none => rfl
      | some u =>
        rw [sAC d u (nm ndq) z] at hd
        cases hd
    · obtain ⟨_, _, _, _, sE, _⟩ := hE
      exact stay nhq hh sE
    · obtain ⟨kvs, S, u7, rfl, sE, sAE, hqE, edE, hkE, hSE⟩ := hE
      obtain ⟨rfl, ex⟩ := y
      rw [List.length_map] at hi
      have ex2 : x = .str hs[i] := by
        rw [List.getElem?_map, List.getElem?_eq_getElem hi] at ex
        exact (Option.some.inj ex).symm
      subst ex2
      have eni : hs[i]? = some hs[i] := List.getElem?_eq_getElem hi
      have lk := hkE.length
      refine ⟨_, rfl, _, rfl, q, _, M, rfl, hqE, by omega, hM1, hM2, fun r E2 t s2 hq2 nr er ht => ?_⟩
      have nrq : r ≠ q := hqE.has nr
      have ed2 := s2 d _ (nm ndq) edE
      have nrd : r ≠ d := fun z => by rw [z, edE] at nr; cases nr
      refine ⟨_, rfl, _, rfl, d, _, rfl, DPut.k (k := Sum.inr hs[i]) ed2 (by rw [lk, List.length_take]; exact Nat.lt_of_le_of_lt (show _ ≤ 12 by omega) (by decide)), ?_⟩
      have new : hs[i] ∉ hs.take i := take_not hnd eni
      rw [putK_new _ (book_new hkE new)]
      have sm2 : Same (off [q, d] _) (off [q, d] E2) := Sm.off (s2.wid fun b m => by rw [List.mem_singleton.mp m]; simp)
      refine ⟨_, putS S hs[i] t, _, rfl, sm_fresh (sE.trans s2) nd, ?_, (hq2.put ndq).up (by omega), upd_same, ?_, ?_⟩
      · refine fun b u m z => ?_
        rw [upd_ne fun e => ?_]
        · exact s2 _ _ m (sAE _ _ m z)
        · rw [e] at z
          have := sAC d _ (nm ndq) z
          rw [hd] at this
          cases this
      · rw [off_upd (by simp), List.take_add_one, eni]
        refine paired_app ?_ (.cons ⟨rfl, r, rfl, ?_⟩ .nil)
        · refine book_same (ents_mono sm2 hkE) fun n hn => ?_
          unfold putS
          rw [if_neg fun e => new (by rw [← e]; exact hn)]
        · rw [off_out (fun m => by rcases List.mem_cons.mp m with m | m; exact nrq m; exact nrd (List.mem_singleton.mp m)), er]
          unfold putS
          rw [if_pos rfl]
      · intro n hn k
        unfold putS
        by_cases e : n = hs[i]
        · rw [if_pos e]
          exact ht k
        · rw [if_neg e]
          rw [List.take_add_one, eni] at hn
          rcases List.mem_append.mp hn with z | z
          · exact hSE n z k
          · exact absurd (List.mem_singleton.mp z) e
    · obtain ⟨kvs, S, u7, rfl, sE, sAE, hqE, edE, hkE, hSE⟩ := hE
      rw [List.length_map] at hqE hkE hSE
      rw [List.take_length] at hkE hSE
      have sAE' : SqT K E ft [.ref f0, .ref f1, .ref f2, .ref f3] ∧ Paired (fun v t => ∃ r, v = V.ref r ∧ E r = some (.tup (T3.v t))) [.ref f0, .ref f1, .ref f2, .ref f3] lawForms := by
        have kt : ∀ {b : Addr} {xs : List V}, A b = some (.tup xs) → E b = some (.tup xs) := fun {b xs} e => sAE b _ (fun m => by
          obtain ⟨_, _, _, z, _⟩ := hq1
          rw [List.mem_singleton.mp m, z] at e
          cases e) e
        exact ⟨SqT.of (kt eft), L2.Paired.mapP hfs fun _ _ ⟨r, h1, h2⟩ => ⟨r, h1, kt h2⟩⟩
      refine ⟨fun σ' G => ∃ tm : Int, σ' = [some (.ref q), some (.ref h), some (.ref p), some (.ref ft), some (.int M), some (.bl bk), some (.ref d), u7, some (.int tm), none, none, none] ∧ Sm [q] E G ∧ PurseAt G q (B + 80) ∧ (bk = true → 1 ≤ tm ∧ tm ≤ 2000), ?_, ?_⟩
      · cases bk with
        | true => exact ⟨_, rfl, true, rfl, ⟨_, rfl, q, _, 2000, rfl, hqE, by omega, by decide, by decide, fun G x s2 hq2 x0 x1 => ⟨_, _, rfl, rfl, _, rfl, s2, hq2.up (by omega), fun _ => ⟨by omega, by omega⟩⟩⟩⟩
        | false => exact ⟨_, rfl, false, rfl, 0, rfl, Sm.refl, hqE.up (by omega), fun z => nomatch z⟩
      rintro σ' G ⟨tm, rfl, sEG, hqG, htm⟩
      have sHG := sE.trans sEG
      refine ⟨_, rfl, _, rfl, _, rfl, p, _, rfl, .inl (stay npq hp sHG), q, _, p, ns, (ns.map V.str).length, rfl, hqG, by omega, npq, stay npq hp sHG, by omega, by omega, by omega, fun r G2 cs rest s2 hq2 nr er hperm hlen => ?_⟩
      have lcs : cs.length = ns.length := by omega
      have hperm2 : cs.Perm ns := by
        have hrest : rest = [] := by
          have e := hperm.length_eq
          rw [List.length_append] at e
          exact List.length_eq_zero_iff.mp (by omega)
        rw [hrest, List.append_nil] at hperm
        exact hperm
      have nrq : r ≠ q := hqG.has nr
      have sEG2 : Sm [q] E G2 := sEG.trans s2
      have sHG2 := sHG.trans s2
      have keepT : ∀ {C : Hp} {b : Addr} {xs : List V}, Sm [q] E C → E b = some (.tup xs) → C b = some (.tup xs) := fun {C b xs} s e => s b _ (fun m => by
        obtain ⟨_, _, _, z, _⟩ := hqE
        rw [List.mem_singleton.mp m, z] at e
        cases e) e
      have ftE : SqT K E ft [.ref f0, .ref f1, .ref f2, .ref f3] := sAE'.1
      have sqt_sm : ∀ {C D : Hp} {b : Addr} {xs : List V} {B' : Nat}, PurseAt C q B' → Sm [q] C D → SqT K C b xs → SqT K D b xs := fun hq s h => Same_tup s.offr (sqt_off hq.dull h)
      have edG2 := sEG2 d _ (nm ndq) edE
      have sml0 : ∀ n ∈ hs, ∀ k, 1 ≤ (S n).get k ∧ (S n).get k * (ns.length : Int) ≤ 100000 := fun n hn k => by
        have h := hSE n hn k
        refine ⟨h.1, Int.le_trans (Int.mul_le_mul_of_nonneg_right h.2 (by omega)) hM3⟩
      have ndr : r ≠ d := fun z => by
        have e := sEG d _ (nm ndq) edE
        rw [← z, nr] at e
        cases e
      refine ⟨_, rfl, r, ft, _, _, rfl, SqL.of er, sqt_sm hqE sEG2 ftE, for_it walk_pair (fun j σ C => ∃ kvs S u7 u9 u10, σ = [some (.ref q), some (.ref h), some (.ref p), some (.ref ft), some (.int M), some (.bl bk), some (.ref d), u7, some (.int tm), u9, u10, none] ∧ Sm [q, d] G2 C ∧ PurseAt C q (B + 84 + j) ∧ C d = some (.dK kvs) ∧ Paired (BookEnt (off [q, d] C) S) kvs hs ∧ SmallS S hs ns.length)
        ⟨kvs, S, u7, none, none, rfl, Sm.refl, hq2.up (by omega), edG2, ents_mono (Sm.off (sEG2.wid fun b m => by rw [List.mem_singleton.mp m]; simp)) hkE, sml0⟩ (fun j σ C _ hC => ?_) (fun j x σ C C2 hj hC y => ?_) fun σ C hC => ?_⟩
      · obtain ⟨_, _, _, _, _, _, sC, _⟩ := hC
        refine ⟨SqL.of (sC r _ (fun m => by rcases List.mem_cons.mp m with m | m; exact nrq m; exact ndr (List.mem_singleton.mp m)) er), ?_⟩
        have h := sqt_sm hqE sEG2 ftE
        refine Same_tup sC.offr (sqt_off (fun b m u e => ?_) h)
        rcases List.mem_cons.mp m with m | m
        · exact hq2.dull b (List.mem_singleton.mpr m) u e
        · rw [List.mem_singleton.mp m, edG2] at e
          exact .inr (.inr (.inl ⟨_, (Option.some.inj e).symm⟩))
      · obtain ⟨kvs1, S1, u7', u9, u10, rfl, sC, hqC1, edC, hkC, hSC⟩ := hC
        obtain ⟨T1, x1, x2, rfl, hT, rfl, ek, ev⟩ := y
        have hj4 : j < cs.length ∧ j < 4 := by
          have e : j < min (cs.map V.str).length 4 := hj
          rw [List.length_map] at e
          omega
        have ecj : cs[j]? = some cs[j] := List.getElem?_eq_getElem hj4.1
        have ek2 : x1 = .str cs[j] := by
          dsimp only at ek
          rw [List.getElem?_map, ecj] at ek
          exact (Option.some.inj ek).symm
        subst ek2
        obtain ⟨fm, efm, fr, efr, hfr⟩ := Paired.at sAE'.2 ev
        subst efr
        have hfmI := forms_ok fm (List.mem_of_getElem? efm)
        have hcj : cs[j] ∈ hs := hin _ (hperm2.subset (List.getElem_mem hj4.1))
        have sT := same_upd (u := .tup [.str cs[j], .ref fr]) hT
        refine ⟨T1, _, rfl, SqT.of upd_same, rfl, _, _, rfl, _, _, rfl, rfl, ?_⟩
        have hqT := hqC1.mono sT
        have edT := sT _ _ edC
        have hkT := ents_mono (off_mono (S := [q, d]) sT) hkC
        have sGT : Sm [q, d] G2 (upd C T1 (.tup [.str cs[j], .ref fr])) := sC.trans (Same_sm sT)
        generalize upd C T1 (.tup [.str cs[j], .ref fr]) = C1 at hqT edT hkT sGT
        have wid : ∀ {C C' : Hp}, Sm [q] C C' → Sm [q, d] C C' := fun s => s.wid fun b m => by rw [List.mem_singleton.mp m]; simp
        have frG2 : G2 fr = some (.tup (T3.v fm)) := keepT sEG2 hfr
        have frK : ∀ {C : Hp}, Sm [q, d] G2 C → C fr = some (.tup (T3.v fm)) := fun s => s fr _ (fun m => by
          rcases List.mem_cons.mp m with m | m
          · obtain ⟨_, _, _, z, _⟩ := hq2
            rw [m, z] at frG2
            cases frG2
          · rw [List.mem_singleton.mp m, edG2] at frG2
            cases frG2) frG2
        refine ⟨rfl, fun ro A3 ts s3 n3 e3 l3 ho3 => ?_⟩
        have hq3 := hqT.mono s3
        have nroq : ro ≠ q := hqT.has n3
        refine ⟨_, rfl, q, _, 6, rfl, hq3, by omega, by decide, by decide, fun A4 oi s4 hq4 o0 o1 => ?_⟩
        obtain ⟨oi, rfl⟩ := Int.eq_ofNat_of_zero_le o0
        have ho6 : oi < 6 := by omega
        obtain ⟨v, evo, hvo⟩ := ho3 ⟨oi, ho6⟩
        obtain ⟨po, rfl, hpo⟩ := hvo
        have hpo4 : SqT K A4 po (oV ⟨oi, ho6⟩) := sqt_sm hq3 s4 hpo
        refine ⟨ro, _, oi, .ref po, rfl, rfl, SqL.of (s4 _ _ (nm nroq) e3), atI_nat evo, ?_⟩
        have s34 : Sm [q, d] G2 A4 := sGT.trans (wid ((Same_sm s3).trans s4))
        have ed4 : A4 d = some (.dK kvs1) := s4 d _ (nm ndq) (s3 _ _ edT)
        have hk4 := ents_mono (Sm.off (wid ((Same_sm s3).trans s4))) hkT
        have hq5 : PurseAt A4 q (B + 84 + (j + 1)) := hq4.up (by omega)
        cases bk with
        | false => exact ⟨_, rfl, false, rfl, kvs1, S1, _, _, _, rfl, s34, hq5, ed4, hk4, hSC⟩
        | true =>
          obtain ⟨t1, t2⟩ := htm rfl
          have n4 := hbk rfl
          refine ⟨_, rfl, true, rfl, ?_⟩
          refine ⟨_, rfl, po, rfl, ⟨_, hpo4⟩, fun D hD => lc_src (xs := oV ⟨oi, ho6⟩) walk_tup (fun A s => Same_tup s hpo4) hD (by show 3 ≤ sizeLine; decide) (fun j y _ => ∀ k : Fin 3, k.val = j → y = .int ((fm.turn ⟨oi, ho6⟩).get k * tm)) (fun _ _ _ _ _ z => z) (fun j x A5 ex sA5 _ Kt kt => ?_) fun A5 acc sA5 eD la hR => ?_⟩
          · have hj3 : j < 3 := (List.getElem?_eq_some_iff.mp ex).1
            obtain ⟨k1, rfl, hx⟩ : ∃ k1 : Fin 3, k1.val = j ∧ x = .int ((oAt ⟨oi, ho6⟩ k1).val : Int) := by
              match j, hj3, ex with
              | 0, _, ex => exact ⟨0, rfl, (Option.some.inj ex).symm⟩
              | 1, _, ex => exact ⟨1, rfl, (Option.some.inj ex).symm⟩
              | 2, _, ex => exact ⟨2, rfl, (Option.some.inj ex).symm⟩
            subst hx
            have b1 := hfmI (oAt ⟨oi, ho6⟩ k1)
            refine ⟨_, rfl, _, rfl, fr, _, _, _, rfl, rfl, SqT.of (sA5 _ _ (frK s34)), at3 _ _, _, rfl, _, _, rfl, rfl, .inl ⟨by omega, by omega⟩, kt _ _ (Same.refl _) fun k e => ?_⟩
            rw [get_turn, Fin.ext e]
          · obtain ⟨w0, w1, w2, rfl⟩ := len3 (show acc.length = 3 from la)
            have g0 := hR 0 _ rfl 0 rfl
            have g1 := hR 1 _ rfl 1 rfl
            have g2 := hR 2 _ rfl 2 rfl
            subst g0 g1 g2
            have eD2 : A5 D = some (.lst (T3.v ⟨(fm.turn ⟨oi, ho6⟩).get 0 * tm, (fm.turn ⟨oi, ho6⟩).get 1 * tm, (fm.turn ⟨oi, ho6⟩).get 2 * tm⟩)) := eD
            have bounds : ∀ k, 1 ≤ (⟨(fm.turn ⟨oi, ho6⟩).get 0 * tm, (fm.turn ⟨oi, ho6⟩).get 1 * tm, (fm.turn ⟨oi, ho6⟩).get 2 * tm⟩ : T3).get k ∧ (⟨(fm.turn ⟨oi, ho6⟩).get 0 * tm, (fm.turn ⟨oi, ho6⟩).get 1 * tm, (fm.turn ⟨oi, ho6⟩).get 2 * tm⟩ : T3).get k * (ns.length : Int) ≤ 100000 := by
              have one : ∀ k, 1 ≤ (fm.turn ⟨oi, ho6⟩).get k * tm ∧ (fm.turn ⟨oi, ho6⟩).get k * tm * (ns.length : Int) ≤ 100000 := fun k => by
                rw [get_turn]
                have b1 := hfmI (oAt ⟨oi, ho6⟩ k)
                generalize fm.get (oAt ⟨oi, ho6⟩ k) = z at b1
                have m1 : 1 * 1 ≤ z * tm := Int.mul_le_mul b1.1 t1 (by omega) (by omega)
                have m2 : z * tm ≤ 11 * 2000 := Int.mul_le_mul b1.2 t2 (by omega) (by omega)
                rw [n4]
                omega
              intro k
              match k with
              | 0 => exact one 0
              | 1 => exact one 1
              | 2 => exact one 2
            generalize (⟨(fm.turn ⟨oi, ho6⟩).get 0 * tm, (fm.turn ⟨oi, ho6⟩).get 1 * tm, (fm.turn ⟨oi, ho6⟩).get 2 * tm⟩ : T3) = nt at eD2 bounds
            have ed5 := sA5 _ _ ed4
            have nDd : D ≠ d := fun z => by rw [z, ed4] at hD; cases hD
            have nDq : D ≠ q := hq5.has hD
            have lk := hk4.length
            refine ⟨_, rfl, _, rfl, d, _, rfl, DPut.k (k := Sum.inr cs[j]) ed5 (by rw [lk]; exact Nat.lt_of_le_of_lt h12 (by decide)), ?_⟩
            have hk5 := ents_mono (off_mono (S := [q, d]) sA5) hk4
            have hv5 : L3At (off [q, d] A5) (.ref D) nt := ⟨D, rfl, by
              rw [off_out (fun m => by rcases List.mem_cons.mp m with m | m; exact nDq m; exact nDd (List.mem_singleton.mp m))]
              exact eD2⟩
            refine ⟨_, putS S1 cs[j] nt, _, _, _, rfl, fun b u m z => ?_, (hq5.mono sA5).put ndq, upd_same, ?_, ?_⟩
            · rw [upd_ne fun e => m (by rw [e]; simp)]
              exact sA5 _ _ (s34 _ _ m z)
            · rw [off_upd (by simp)]
              exact book_put hv5 hk5 hcj
            · intro n hn k
              unfold putS
              by_cases e : n = cs[j]
              · rw [if_pos e]
                exact bounds k
              · rw [if_neg e]
                exact hSC n hn k
      · obtain ⟨kvs1, S1, u7', u9, u10, rfl, sC, hqC1, edC, hkC, hSC⟩ := hC
        have jb : min (cs.map V.str).length [V.ref f0, V.ref f1, V.ref f2, V.ref f3].length ≤ 4 := Nat.min_le_right _ _
        refine ⟨_, rfl, k d S1 C ?_ (hqC1.up (by omega)) nd ⟨d, kvs1, rfl, ?_, ents_mono ?_ hkC⟩ hSC⟩
        · intro b u m z
          refine sC b u (fun y => ?_) (sHG2 b u m z)
          rcases List.mem_cons.mp y with y | y
          · exact m (List.mem_singleton.mpr y)
          · rw [List.mem_singleton.mp y, nd] at z
            cases z
        · rw [off_out (nm ndq)]
          exact edC
        · intro b u z
          have mm : b ∉ [q, d] := fun y => by rw [off_in y] at z; cases z
          rw [off_out mm] at z
          rw [off_out fun y => mm (by rw [List.mem_singleton.mp y]; simp)]
          exact z
end
end Bx
set_option Elab.async false
set_option linter.all false
set_option maxRecDepth 100000
set_option maxHeartbeats 1000000
/-! BxY6: the names of what is told. -/
namespace Bx
open PySem PySem.Spec PyProof.Rows L2
theorem Lay.names_len : ∀ L : Lay, 1 ≤ L.names.length
  | .one _ _ => Nat.le_refl _
  | .by_ _ a b => by
    have := Lay.names_len a
    show 1 ≤ (a.names ++ b.names).length
    rw [List.length_append]
    omega
section
variable {P : Program} {w : World} {K : PySem.W.Frag} {mg : Str → Option Value} {base : Heap}
def spNamed (K : PySem.W.Frag) (d : Nat) : Sp := fun vs H Q _ => ∃ b S ns v L, vs = [b, v] ∧ BookAt H b S ns ∧ LayAt K H v L ∧ L.depth ≤ d ∧ L.names.length ≤ 1000 ∧ (∀ n ∈ L.names, n ∈ ns) ∧ ∀ r H', Same H H' → H r = none → H' r = some (.lst (L.names.map V.str)) → Q (.ref r) H'
theorem sc__law_named : FnScope ["_law_book_here", "_law_thing", "_law_good", "_law_first", "_law_second"] ["_law_book_here", "_law_thing"] (defScope s__law_named) := ⟨rfl, rfl, rfl, by decide +kernel, rfl, by decide +kernel, by decide +kernel⟩
theorem ok_law_named (T : Env w K mg) (d k : Nat) (F2 : ∀ d', d = d' + 1 → Fx P w K mg base "_law_named" (k + 2) ["_law_book_here", "_law_thing"] (spNamed K d')) : Fx P w K mg base "_law_named" (k + 3) ["_law_book_here", "_law_thing"] (spNamed K d) := by
  obtain ⟨fd, F⟩ := T.d__law_named
  have F__law_is_whole := F__law_is_whole (P := P) (base := base) T
  have F__law_is_order := F__law_is_order (P := P) (base := base) T
  refine ⟨_, fd, T.glo__law_named, F.kp, F.bindsN fun _ _ _ _ _ _ us hl => match us, hl with | [_, _], _ => rfl, ?_⟩
  refine F.ok sc__law_named (fun vs H Q E h => ?_) (fun cdv A outer s H vs Q E hr h => ?_)
  · obtain ⟨b, S, ns, v, L, rfl, _⟩ := h
    rfl
  · obtain ⟨b, S, ns, v, L, rfl, hb, hv, hd, hlen, hn, k0⟩ := h
    cases L with
    | one n o =>
      refine ⟨_, PSs.nox (pss_cons (ps_if (PW.pt (pw_or (pt_not (pt_val (pe_callB call_isi (by rfl) T.free_isinstance (by decide +kernel) (pa_cons (pv 1) (pa_cons (pe_bltn (v := .ty "tuple") (u := .type "tuple") (by rfl) T.free_tuple (by decide +kernel) rfl) pa_nil))))) (pw_or (pt_cmpR op_lt (pe_callB call_len_seq (by rfl) T.free_len (by decide +kernel) (pa_cons (pv 1) pa_nil)) pe_int (nomark _)) (pw_or1 (pt_not (pt_val (pe_callB call_isi (by rfl) T.free_isinstance (by decide +kernel) (pa_cons (pe_ix ix_tup (pv 1) pe_int (fun _ _ => rfl)) (pa_cons (pe_bltn (v := .ty "str") (u := .type "str") (by rfl) T.free_str (by decide +kernel) rfl) pa_nil))))))))) (pss_one (ps_ret pe_non)) pss_nil) (pss_cons (ps_if (PW.pt (pw_and (pt_cmpR op_eq (pe_ix ix_tup (pv 1) pe_int (fun _ _ => rfl)) pe_str (nomark _)) (pw_and1 (pt_cmpR op_eq (pe_callB call_len_seq (by rfl) T.free_len (by decide +kernel) (pa_cons (pv 1) pa_nil)) pe_int (nomark _))))) (pss_cons (ps_set (i := 2) sc__law_named.nd rfl (Or.inl rfl) (pe_and (pe_callB call_isi (by rfl) T.free_isinstance (by decide +kernel) (pa_cons (pe_ix ix_tup (pv 1) pe_int (fun _ _ => rfl)) (pa_cons (pe_bltn (v := .ty "str") (u := .type "str") (by rfl) T.free_str (by decide +kernel) rfl) pa_nil))) (pe_and (pe_cmp (pc_din (hu_of hr) (pe_ix ix_tup (pv 1) pe_int (fun _ _ => rfl)) (pv 0))) (pe_one (pe_fx F__law_is_order (hr.mono (by omega)) rfl (pa_cons (pe_ix ix_tup (pv 1) pe_int (fun _ _ => rfl)) pa_nil)))))) (pss_one (ps_ret (pe_ifExp (pt_truth (pv 2) (by intro _; rfl)) (pe_lst (pa_cons (pe_ix ix_tup (pv 1) pe_int (fun _ _ => rfl)) pa_nil)) pe_non)))) pss_nil) (pss_cons (ps_if (PW.pt (pw_or (pt_cmpR op_ne (pe_ix ix_tup (pv 1) pe_int (fun _ _ => rfl)) pe_str (nomark _)) (pw_or (pt_cmpR op_ne (pe_callB call_len_seq (by rfl) T.free_len (by decide +kernel) (pa_cons (pv 1) pa_nil)) pe_int (nomark _)) (pw_or1 (pt_not (pt_val (pe_fx F__law_is_whole (hr.mono (by omega)) rfl (pa_cons (pe_ix ix_tup (pv 1) pe_int (fun _ _ => rfl)) (pa_cons pe_int (pa_cons pe_int pa_nil)))))))))) (pss_one (ps_ret pe_non)) pss_nil) (pss_cons ps_never (pss_cons ps_never (pss_cons (ps_if (PW.pt (pw_or (pt_cmpR op_isN (pv 3) pe_non (nomark _)) (pw_or1 (pt_cmpR op_isN (pv 4) pe_non (nomark _))))) (pss_one (ps_ret pe_non)) pss_nil) (pss_one (ps_ret (pe_op op_cat (pv 3) (pv 4)))))))))), ?_⟩
      obtain ⟨q, ⟨p, rfl, hp⟩, ho⟩ := id hv
      refine ⟨_, rfl, _, _, .type "tuple", .type "tuple", true, rfl, .ty _, ty_tup hp, kit_ty (by decide +kernel), _, rfl, iteF ?_⟩
      refine ⟨_, rfl, p, _, rfl, .inr hp, _, _, rfl, rfl, _, rfl, iteDF (by show ¬ ((3 : Int) < 3); decide) ?_⟩
      refine ⟨_, rfl, p, _, _, _, rfl, rfl, hp, rfl, _, _, .type "str", .type "str", true, rfl, .ty _, .base (.str _), kit_ty (by decide +kernel), _, rfl, iteF ?_⟩
      refine ⟨_, rfl, p, _, _, _, rfl, rfl, hp, rfl, rfl, _, rfl, iteT ?_⟩
      refine ⟨_, rfl, p, _, rfl, .inr hp, rfl, _, rfl, iteT ?_⟩
      obtain ⟨d0, kvs, rfl, hd0, hkvs⟩ := hb
      obtain ⟨v2, ev, r0, rfl, hr0⟩ := book_get hkvs (hn n (List.mem_cons_self ..))
      have gd : DGet H d0 (.str n) (some (.ref r0)) := by
        have := DGet.k (k := Sum.inr n) hd0
        rw [ev] at this
        exact this
      refine ⟨_, rfl, p, _, _, _, rfl, rfl, hp, rfl, _, _, .type "str", .type "str", true, rfl, .ty _, .base (.str _), kit_ty (by decide +kernel), _, rfl, iteT ?_⟩
      refine ⟨_, rfl, p, _, _, _, rfl, rfl, hp, rfl, _, rfl, d0, _, rfl, gd, _, rfl, iteT ?_⟩
      refine ⟨_, rfl, p, _, _, _, rfl, rfl, hp, rfl, _, o, rfl, ho, fun H1 s1 => ?_⟩
      refine ⟨_, rfl, _, rfl, iteT ?_⟩
      refine ⟨_, rfl, p, _, _, _, rfl, rfl, Same_tup s1 hp, rfl, (by show 1 ≤ sizeLine; decide), fun D hD => ?_⟩
      have nD : H D = none := by
        cases z : H D with
        | none => rfl
        | some u => rw [s1 _ _ z] at hD; cases hD
      exact k0 D _ (s1.trans (same_upd hD)) nD upd_same
    | by_ i L M =>
      have hd2 : max L.depth M.depth + 1 ≤ d := hd
      obtain ⟨d', rfl⟩ : ∃ d', d = d' + 1 := ⟨d - 1, by omega⟩
      have F__law_named := F2 d' rfl
      refine ⟨_, PSs.nox (pss_cons (ps_if (PW.pt (pw_or (pt_not (pt_val (pe_callB call_isi (by rfl) T.free_isinstance (by decide +kernel) (pa_cons (pv 1) (pa_cons (pe_bltn (v := .ty "tuple") (u := .type "tuple") (by rfl) T.free_tuple (by decide +kernel) rfl) pa_nil))))) (pw_or (pt_cmpR op_lt (pe_callB call_len_seq (by rfl) T.free_len (by decide +kernel) (pa_cons (pv 1) pa_nil)) pe_int (nomark _)) (pw_or1 (pt_not (pt_val (pe_callB call_isi (by rfl) T.free_isinstance (by decide +kernel) (pa_cons (pe_ix ix_tup (pv 1) pe_int (fun _ _ => rfl)) (pa_cons (pe_bltn (v := .ty "str") (u := .type "str") (by rfl) T.free_str (by decide +kernel) rfl) pa_nil))))))))) (pss_one (ps_ret pe_non)) pss_nil) (pss_cons (ps_if (PW.pt (pw_and (pt_cmpR op_eq (pe_ix ix_tup (pv 1) pe_int (fun _ _ => rfl)) pe_str (nomark _)) (pw_and1 (pt_cmpR op_eq (pe_callB call_len_seq (by rfl) T.free_len (by decide +kernel) (pa_cons (pv 1) pa_nil)) pe_int (nomark _))))) (pss_cons (ps_set (i := 2) sc__law_named.nd rfl (Or.inl rfl) (pe_and (pe_callB call_isi (by rfl) T.free_isinstance (by decide +kernel) (pa_cons (pe_ix ix_tup (pv 1) pe_int (fun _ _ => rfl)) (pa_cons (pe_bltn (v := .ty "str") (u := .type "str") (by rfl) T.free_str (by decide +kernel) rfl) pa_nil))) (pe_and (pe_cmp (pc_din (hu_of hr) (pe_ix ix_tup (pv 1) pe_int (fun _ _ => rfl)) (pv 0))) (pe_one (pe_fx F__law_is_order (hr.mono (by omega)) rfl (pa_cons (pe_ix ix_tup (pv 1) pe_int (fun _ _ => rfl)) pa_nil)))))) (pss_one (ps_ret (pe_ifExp (pt_truth (pv 2) (by intro _; rfl)) (pe_lst (pa_cons (pe_ix ix_tup (pv 1) pe_int (fun _ _ => rfl)) pa_nil)) pe_non)))) pss_nil) (pss_cons (ps_if (PW.pt (pw_or (pt_cmpR op_ne (pe_ix ix_tup (pv 1) pe_int (fun _ _ => rfl)) pe_str (nomark _)) (pw_or (pt_cmpR op_ne (pe_callB call_len_seq (by rfl) T.free_len (by decide +kernel) (pa_cons (pv 1) pa_nil)) pe_int (nomark _)) (pw_or1 (pt_not (pt_val (pe_fx F__law_is_whole (hr.mono (by omega)) rfl (pa_cons (pe_ix ix_tup (pv 1) pe_int (fun _ _ => rfl)) (pa_cons pe_int (pa_cons pe_int pa_nil)))))))))) (pss_one (ps_ret pe_non)) pss_nil) (pss_cons (ps_set (i := 3) sc__law_named.nd rfl (Or.inl rfl) (pe_fx F__law_named (hr.mono (by omega)) rfl (pa_cons (pv 0) (pa_cons (pe_ix ix_tup (pv 1) pe_int (fun _ _ => rfl)) pa_nil)))) (pss_cons (ps_set (i := 4) sc__law_named.nd rfl (Or.inl rfl) (pe_fx F__law_named (hr.mono (by omega)) rfl (pa_cons (pv 0) (pa_cons (pe_ix ix_tup (pv 1) pe_int (fun _ _ => rfl)) pa_nil)))) (pss_cons (ps_if (PW.pt (pw_or (pt_cmpR op_isN (pv 3) pe_non (nomark _)) (pw_or1 (pt_cmpR op_isN (pv 4) pe_non (nomark _))))) (pss_one (ps_ret pe_non)) pss_nil) (pss_one (ps_ret (pe_op op_cat (pv 3) (pv 4)))))))))), ?_⟩
      obtain ⟨va, vb, ⟨p, rfl, hp⟩, ha, hb2⟩ := id hv
      refine ⟨_, rfl, _, _, .type "tuple", .type "tuple", true, rfl, .ty _, ty_tup hp, kit_ty (by decide +kernel), _, rfl, iteF ?_⟩
      refine ⟨_, rfl, p, _, rfl, .inr hp, _, _, rfl, rfl, _, rfl, iteDF (by show ¬ ((4 : Int) < 3); decide) ?_⟩
      refine ⟨_, rfl, p, _, _, _, rfl, rfl, hp, rfl, _, _, .type "str", .type "str", true, rfl, .ty _, .base (.str _), kit_ty (by decide +kernel), _, rfl, iteF ?_⟩
      refine ⟨_, rfl, p, _, _, _, rfl, rfl, hp, rfl, rfl, _, rfl, iteF ?_⟩
      refine ⟨_, rfl, p, _, _, _, rfl, rfl, hp, rfl, rfl, _, rfl, iteF ?_⟩
      refine ⟨_, rfl, p, _, rfl, .inr hp, rfl, _, rfl, iteF ?_⟩
      have i0 : (0 : Int) ≤ (i.val : Int) := by omega
      have i2 : (i.val : Int) ≤ 2 := by omega
      refine ⟨_, rfl, p, _, _, _, rfl, rfl, hp, rfl, (i.val : Int), 0, 2, rfl, ?_⟩
      rw [decide_eq_true i0, decide_eq_true i2]
      refine ⟨_, rfl, iteF ?_⟩
      refine ⟨_, rfl, _, rfl, p, _, _, _, rfl, rfl, hp, rfl, b, S, ns, va, L, rfl, hb, ha, by omega, ?_, fun n h => hn n (List.mem_append_left _ h), fun r1 H1 s1 n1 e1 => ?_⟩
      · have : (L.names ++ M.names).length ≤ 1000 := hlen
        rw [List.length_append] at this
        omega
      refine ⟨_, rfl, _, rfl, p, _, _, _, rfl, rfl, Same_tup s1 hp, rfl, b, S, ns, vb, M, rfl, hb.mono s1, hb2.mono s1, by omega, ?_, fun n h => hn n (List.mem_append_right _ h), fun r2 H2 s2 n2 e2 => ?_⟩
      · have : (L.names ++ M.names).length ≤ 1000 := hlen
        rw [List.length_append] at this
        omega
      refine ⟨_, rfl, rfl, _, rfl, iteF ?_⟩
      refine ⟨_, rfl, rfl, _, rfl, iteF ?_⟩
      have e1' := s2 _ _ e1
      refine ⟨_, rfl, _, rfl, r1, r2, _, _, rfl, rfl, e1', e2, ?_, fun D hD => ?_⟩
      · have : (L.names ++ M.names).length ≤ 1000 := hlen
        rw [List.length_append] at this
        rw [List.length_map, List.length_map]
        exact Nat.le_trans this (by decide)
      · have s12 := s1.trans s2
        have nD : H D = none := by
          cases z : H D with
          | none => rfl
          | some u => rw [s12 _ _ z] at hD; cases hD
        refine k0 D _ (s12.trans (same_upd hD)) nD ?_
        rw [upd_same, ← List.map_append]
        rfl
theorem F__law_named (T : Env w K mg) : ∀ d, Fx P w K mg base "_law_named" (d + 3) ["_law_book_here", "_law_thing"] (spNamed K d)
  | 0 => ok_law_named T 0 0 fun d' e => absurd e (by omega)
  | d + 1 => ok_law_named T (d + 1) (d + 1) fun d' e => by
    obtain rfl : d' = d := by omega
    exact F__law_named T d'
end
end Bx
set_option Elab.async false
set_option linter.all false
set_option maxRecDepth 100000
set_option maxHeartbeats 1000000
/-! BxY7: pairs held. -/
namespace Bx
open PySem PySem.Spec PyProof.Rows L2
section
variable {P : Program} {w : World} {K : PySem.W.Frag} {mg : Str → Option Value} {base : Heap}
def spPairsHeld : Sp := fun vs H Q _ => ∃ a b st us vs' ws ss os ts, vs = [.ref a, .ref b, .ref st] ∧ H a = some (.lst us) ∧ H b = some (.lst vs') ∧ H st = some (.lst ws) ∧ L3sAt H us ss ∧ L3sAt H vs' os ∧ L3sAt H ws ts ∧
  (∀ s ∈ ss, ∀ o ∈ os, ∀ (r : Fin 6) (k : Fin 3), (ts.any fun t => le3 t (beside s (T3.turn o r) k).desc) = true) ∧ ∀ H', Same H H' → Q (.bl true) H'
theorem sc__law_pairs_held : FnScope ["_law_ones", "_law_others", "_law_stored", "_law_one", "_law_other", "_law_order", "_law_turned", "_law_axis", "_law_three_here", "_law_number", "_law_k"] ["_law_ones", "_law_others", "_law_stored"] (defScope s__law_pairs_held) := ⟨rfl, rfl, rfl, by decide +kernel, rfl, by decide +kernel, by decide +kernel⟩
theorem F__law_pairs_held (T : Env w K mg) : Fx P w K mg base "_law_pairs_held" 2 ["_law_ones", "_law_others", "_law_stored"] spPairsHeld := by
  obtain ⟨fd, F⟩ := T.d__law_pairs_held
  have F__law_orders := F__law_orders (P := P) (base := base) T
  have F__law_held := F__law_held (P := P) (base := base) T
  refine ⟨_, fd, T.glo__law_pairs_held, F.kp, F.bindsN fun _ _ _ _ _ _ us hl => match us, hl with | [_, _, _], _ => rfl, ?_⟩
  refine F.ok sc__law_pairs_held (fun vs H Q E h => ?_) (fun cdv A outer s H vs Q E hr h => ?_)
  · obtain ⟨a, b, st, us, vs', ws, ss, os, ts, rfl, _⟩ := h
    rfl
  · obtain ⟨a, b, st, us, vs', ws, ss, os, ts, rfl, ha, hb, hst, hus, hvs, hws, hall, k⟩ := h
    refine ⟨_, PSs.nox (pss_cons (ps_for PassesOwn.never rfl (pi_list (pv 0)) (pg_name (i := 3) sc__law_pairs_held.nd rfl (Or.inr rfl)) (pss_one (ps_for PassesOwn.never rfl (pi_list (pv 1)) (pg_name (i := 4) sc__law_pairs_held.nd rfl (Or.inr rfl)) (pss_one (ps_for PassesOwn.never rfl (pi_list (pe_fx0 F__law_orders (hr.mono (by decide)) rfl)) (pg_name (i := 5) sc__law_pairs_held.nd rfl (Or.inl rfl)) (pss_cons (ps_set (i := 6) sc__law_pairs_held.nd rfl (Or.inr rfl) (pe_lc (own := [("_law_number", 9)]) (g := gName 9) (tt := tYes) (by rfl) sc__law_pairs_held.nd (pi_tup (pv 5)) (blkOk_by (own := [("_law_number", 9)]) (N := ["_law_ones", "_law_others", "_law_stored", "_law_one", "_law_other", "_law_order", "_law_turned", "_law_axis", "_law_three_here", "_law_number", "_law_k"]) (sc := defScope s__law_pairs_held) (by decide +kernel)) (fun _ _ _ _ _ => (pg_name (i := 9) sc__law_pairs_held.nd rfl (Or.inl rfl))) (fun _ _ _ _ _ => pts_nil) (fun _ _ _ _ _ => (pe_ix (ix_listK K) (pv 4) (pv 9) (fun _ _ => rfl))))) (pss_one (ps_for PassesOwn.never rfl (pi_range1 rfl T.free_range (pa_cons pe_int pa_nil)) (pg_name (i := 7) sc__law_pairs_held.nd rfl (Or.inl rfl)) (pss_cons (ps_setLc (i := 8) (own := [("_law_k", 10)]) (g := gName 10) (tt := tYes) (by rfl) sc__law_pairs_held.nd rfl rfl (sw_true rfl rfl rfl (by decide +kernel)) (pi_range1 rfl T.free_range (pa_cons pe_int pa_nil)) (blkOk_by (own := [("_law_k", 10)]) (N := ["_law_ones", "_law_others", "_law_stored", "_law_one", "_law_other", "_law_order", "_law_turned", "_law_axis", "_law_three_here", "_law_number", "_law_k"]) (sc := defScope s__law_pairs_held) (by decide +kernel)) (fun _ _ _ _ _ => (pg_name (i := 10) sc__law_pairs_held.nd rfl (Or.inl rfl))) (fun _ _ _ _ _ => pts_nil) (fun _ _ _ _ _ => (pe_callB (call_max2 rfl) (by rfl) T.free_max (by decide +kernel) (pa_cons (pe_ix (ix_listK K) (pv 3) (pv 10) (fun _ _ => rfl)) (pa_cons (pe_ix (ix_listK K) (pv 6) (pv 10) (fun _ _ => rfl)) pa_nil))))) (pss_cons (ps_asg (pe_op op_add (pe_ix ix_list (pv 3) (pv 7) (fun _ _ => rfl)) (pe_ix ix_list (pv 6) (pv 7) (fun _ _ => rfl))) (pg_sub (pv 8) (pv 7) set_list)) (pss_one (ps_if (pt_not (pt_val (pe_fx F__law_held (hr.mono (by decide)) rfl (pa_cons (pe_callBK (cr_sortedRev (b := true)) (by rfl) T.free_sorted (by decide +kernel) (pa_cons (pv 8) pa_nil) (pk_cons pe_bl pk_nil)) (pa_cons (pv 2) pa_nil))))) (pss_one (ps_ret pe_bl)) pss_nil)))))))))))) (pss_one (ps_ret pe_bl))), ?_⟩
    refine ⟨_, rfl, a, rfl, ⟨_, SqL.of ha⟩, for_it (walk_list (xs := us)) (fun i σ H' => Same H H' ∧ ∃ u1 u2 u3 u4 u5 u6, σ = [some (.ref a), some (.ref b), some (.ref st), u1, u2, u3, u4, u5, u6, none, none]) ⟨Same.refl _, _, _, _, _, _, _, rfl⟩ (fun i σ H' _ h => SqL.of (h.1 _ _ ha)) (fun i x σ A B hi h y => ?_) fun σ A h => ?_⟩
    · obtain ⟨s1, u1, u2, u3, u4, u5, u6, rfl⟩ := h
      obtain ⟨rfl, ex⟩ := y
      obtain ⟨s, es, r1, rfl, hr1⟩ := Paired.at hus ex
      refine ⟨_, rfl, b, rfl, ⟨_, SqL.of (s1 _ _ hb)⟩, for_it (walk_list (xs := vs')) (fun j σ H' => Same H H' ∧ ∃ u2 u3 u4 u5 u6, σ = [some (.ref a), some (.ref b), some (.ref st), some (.ref r1), u2, u3, u4, u5, u6, none, none]) ⟨s1, _, _, _, _, _, rfl⟩ (fun i σ H' _ h => SqL.of (h.1 _ _ hb)) (fun j x σ A2 B2 hj h y => ?_) fun σ A2 h => ?_⟩
      · obtain ⟨s2, u2, u3, u4, u5, u6, rfl⟩ := h
        obtain ⟨rfl, ex2⟩ := y
        obtain ⟨o, eo, r2, rfl, hr2⟩ := Paired.at hvs ex2
        refine ⟨rfl, fun ro A3 ts3 s3 n3 e3 l3 ho3 => ?_⟩
        have s23 := s2.trans s3
        refine ⟨ro, rfl, ⟨_, SqL.of e3⟩, for_it (walk_list (xs := ts3)) (fun l σ H' => Same A3 H' ∧ ∃ u3 u4 u5 u6, σ = [some (.ref a), some (.ref b), some (.ref st), some (.ref r1), some (.ref r2), u3, u4, u5, u6, none, none]) ⟨Same.refl _, _, _, _, _, rfl⟩ (fun i σ H' _ h => SqL.of (h.1 _ _ e3)) (fun l x σ A4 B4 hl h y => ?_) fun σ A4 h => ?_⟩
        · obtain ⟨s4, u3, u4, u5, u6, rfl⟩ := h
          obtain ⟨rfl, ex4⟩ := y
          rw [l3] at hl
          obtain ⟨vo, evo, po, rfl, hpo⟩ := ho3 ⟨l, hl⟩
          obtain rfl : V.ref po = x := Option.some.inj (evo.symm.trans ex4)
          have s24 := s23.trans s4
          refine ⟨_, rfl, po, rfl, ⟨_, Same_tup s4 hpo⟩, fun D hD => lc_src (xs := oV ⟨l, hl⟩) walk_tup (fun A s => Same_tup (s4.trans s) hpo) hD (by show 3 ≤ sizeLine; decide) (fun j y _ => ∀ k : Fin 3, k.val = j → y = .int ((o.turn ⟨l, hl⟩).get k)) (fun _ _ _ _ _ z => z) (fun j x A ex sA _ Kt kt => ?_) fun A acc sA eD la hR => ?_⟩
          · have hj : j < 3 := (List.getElem?_eq_some_iff.mp ex).1
            obtain ⟨k1, rfl, hx⟩ : ∃ k1 : Fin 3, k1.val = j ∧ x = .int ((oAt ⟨l, hl⟩ k1).val : Int) := by
              match j, hj, ex with
              | 0, _, ex => exact ⟨0, rfl, (Option.some.inj ex).symm⟩
              | 1, _, ex => exact ⟨1, rfl, (Option.some.inj ex).symm⟩
              | 2, _, ex => exact ⟨2, rfl, (Option.some.inj ex).symm⟩
            subst hx
            exact ⟨_, rfl, _, rfl, r2, _, _, _, rfl, rfl, SqL.of ((s24.trans sA) _ _ hr2), at3 _ _, kt _ _ (Same.refl _) fun k e => by rw [get_turn, Fin.ext e]⟩
          · obtain ⟨w0, w1, w2, rfl⟩ := len3 (show acc.length = 3 from la)
            have f0 := hR 0 _ rfl 0 rfl
            have f1 := hR 1 _ rfl 1 rfl
            have f2 := hR 2 _ rfl 2 rfl
            subst f0 f1 f2
            clear hR la
            have s2A := s24.trans sA
            have hr2A : A D = some (.lst (T3.v (o.turn ⟨l, hl⟩))) := eD
            have hall' := hall s (List.mem_of_getElem? es) o (List.mem_of_getElem? eo) ⟨l, hl⟩
            generalize o.turn ⟨l, hl⟩ = tt at hr2A hall'
            refine ⟨3, rfl, by decide, by decide, for_it (walk_rng (n := 3)) (fun m σ H' => Same A H' ∧ ∃ u5 u6, σ = [some (.ref a), some (.ref b), some (.ref st), some (.ref r1), some (.ref r2), some (.ref po), some (.ref D), u5, u6, none, none]) ⟨Same.refl _, _, _, rfl⟩ (fun i σ H' _ h => trivial) (fun m x σ A5 B5 hm h y => ?_) fun σ A5 h => ?_⟩
            · obtain ⟨s5, u5, u6, rfl⟩ := h
              obtain ⟨rfl, ex5⟩ := y
              obtain ⟨hm3, ex6⟩ := rng_at ex5
              rw [Int.zero_add] at ex6
              subst ex6
              have sH5 := s2A.trans s5
              have f1' := s5 _ _ hr2A
              refine ⟨3, rfl, by decide, by decide, fun D2 hD2 => lc_src (walk_rng (n := 3)) (fun _ _ => trivial) hD2 (show 3 ≤ sizeLine by decide) (fun j y _ => ∀ k : Fin 3, k.val = j → y = .int (max (s.get k) (tt.get k))) (fun _ _ _ _ _ z => z) (fun j x A6 ex sA6 _ Kt kt => ?_) fun A6 acc sA6 eD6 la hR => ?_⟩
              · obtain ⟨hj, ej⟩ := rng_at ex
                rw [Int.zero_add] at ej
                subst ej
                refine ⟨_, rfl, _, rfl, r1, _, _, _, rfl, rfl, SqL.of ((sH5.trans sA6) _ _ hr1), at3 _ ⟨j, hj⟩, _, rfl, _, rfl, D, _, _, _, rfl, rfl, SqL.of (sA6 _ _ f1'), at3 _ ⟨j, hj⟩, _, _, rfl, kt _ _ (Same.refl _) fun k e => ?_⟩
                obtain rfl : k = ⟨j, hj⟩ := Fin.ext e
                congr 1
                split <;> omega
              · obtain ⟨w0, w1, w2, rfl⟩ := len3 (show acc.length = 3 from la)
                have g0 := hR 0 _ rfl 0 rfl
                have g1 := hR 1 _ rfl 1 rfl
                have g2 := hR 2 _ rfl 2 rfl
                subst g0 g1 g2
                refine ⟨_, rfl, _, rfl, r1, _, _, _, rfl, rfl, SqL.of ((sH5.trans sA6) _ _ hr1), at3 _ ⟨m, hm3⟩, _, rfl, _, rfl, D, _, _, _, rfl, rfl, SqL.of (sA6 _ _ f1'), at3 _ ⟨m, hm3⟩, _, _, rfl, rfl, _, rfl, _, rfl, D2, _, _, m, rfl, rfl, eD6, ix3 ⟨m, hm3⟩, ?_⟩
                have sD6 : Same B5 (upd A6 D2 (.lst (T3.v (beside s tt ⟨m, hm3⟩)))) := same_over sA6 hD2
                have eB : (upd A6 D2 (.lst (T3.v (beside s tt ⟨m, hm3⟩)))) D2 = some (.lst ((T3.l (beside s tt ⟨m, hm3⟩)).map V.int)) := upd_same
                rw [show [V.int (max (s.get 0) (tt.get 0)), V.int (max (s.get 1) (tt.get 1)), V.int (max (s.get 2) (tt.get 2))].set m (V.int (s.get ⟨m, hm3⟩ + tt.get ⟨m, hm3⟩)) = (beside s tt ⟨m, hm3⟩).v from beside_set s tt ⟨m, hm3⟩]
                have hb3 := hall' ⟨m, hm3⟩
                generalize beside s tt ⟨m, hm3⟩ = bs at sD6 eB hb3 ⊢
                generalize upd A6 D2 (.lst (T3.v bs)) = A7 at sD6 eB ⊢
                refine ⟨_, rfl, D2, bs.l, rfl, rfl, SqL.of eB, fun ns' pn hn ho hpn => ?_⟩
                rw [desc_of hn ho]
                have sD7 := sD6.trans (same_upd (u := .lst (bs.desc.l.map V.int)) hpn)
                have sH7 := sH5.trans sD7
                refine ⟨_, rfl, .ref pn, st, ws, ts, bs.desc, rfl, ⟨pn, rfl, upd_same⟩, sH7 _ _ hst, L2.Paired.mapP hws fun _ _ z => z.mono sH7, ?_⟩
                rw [hb3]
                refine ⟨_, rfl, iteF ⟨s5.trans sD7, _, _, rfl⟩⟩
            · obtain ⟨s5, u5, u6, rfl⟩ := h
              exact ⟨s4.trans (sA.trans s5), _, _, _, _, rfl⟩
        · obtain ⟨s4, u3, u4, u5, u6, rfl⟩ := h
          exact ⟨s23.trans s4, _, _, _, _, _, rfl⟩
      · obtain ⟨s2, u2, u3, u4, u5, u6, rfl⟩ := h
        exact ⟨s2, _, _, _, _, _, _, rfl⟩
    · obtain ⟨s1, u1, u2, u3, u4, u5, u6, rfl⟩ := h
      exact k _ s1
end
end Bx
set_option Elab.async false
set_option linter.all false
set_option maxRecDepth 100000
set_option maxHeartbeats 1000000
/-! BxY8: list_right. -/
namespace Bx
open PySem PySem.Spec PyProof.Rows L2
def descs (ls : List Laid) : List T3 := ls.map fun d => d.three.desc
def threes (ls : List Laid) : List T3 := ls.map fun d => d.three
theorem held_any {ls : List Laid} {t : T3} (h : Held ls t) : ((descs ls).any fun s => le3 s t.desc) = true := by
  unfold descs
  rw [List.any_map]
  exact held_iff.mpr h
theorem apart_any {ls : List Laid} (h : Apart ls) {k : Nat} {d : Laid} (e : ls[k]? = some d) : (((descs ls).take k ++ (descs ls).drop (k + 1)).any fun s => le3 s d.three.desc) = false := by
  rw [Bool.eq_false_iff]
  intro z
  obtain ⟨s, hs, hl⟩ := List.any_eq_true.mp z
  obtain ⟨hk, rfl⟩ := List.getElem?_eq_some_iff.mp e
  have pw := List.pairwise_iff_getElem.mp h
  unfold descs at hs
  rcases List.mem_append.mp hs with m | m
  · rw [← List.map_take] at m
    obtain ⟨r, hr, rfl⟩ := List.mem_map.mp m
    obtain ⟨j, hj, rfl⟩ := List.mem_take_iff_getElem.mp hr
    have hjk : j < k := by omega
    exact (pw j k (by omega) hk hjk).1 hl
  · rw [← List.map_drop] at m
    obtain ⟨r, hr, rfl⟩ := List.mem_map.mp m
    obtain ⟨j, hj, rfl⟩ := List.mem_drop_iff_getElem.mp hr
    have hj2 : k < k + 1 + j := by omega
    exact (pw k (k + 1 + j) hk (by omega) hj2).2 hl
theorem cutV_take (xs : List V) (k : Nat) : cutV xs none (some (k : Int)) = xs.take k := by
  unfold cutV
  rw [HT.sIx_nat, HT.sIx_none, List.drop_zero, Nat.sub_zero]
  rcases Nat.le_total k xs.length with e | e
  · rw [Nat.min_eq_left e]
  · rw [Nat.min_eq_right e, List.take_length, List.take_of_length_le e]
theorem cutV_drop (xs : List V) (k : Nat) : cutV xs (some (k : Int)) none = xs.drop k := by
  unfold cutV
  rw [HT.sIx_nat, HT.sIx_none]
  rw [List.take_of_length_le (by rw [List.length_drop]; omega)]
  rcases Nat.le_total k xs.length with e | e
  · rw [Nat.min_eq_left e]
  · rw [Nat.min_eq_right e, List.drop_length, List.drop_of_length_le e]
theorem paired_take {α β : Type} {R : α → β → Prop} : ∀ {l : List α} {m : List β} (k : Nat), Paired R l m → Paired R (l.take k) (m.take k)
  | _, _, 0, _ => by rw [List.take_zero, List.take_zero]; exact .nil
  | _, _, _ + 1, .nil => .nil
  | _, _, k + 1, .cons r t => .cons r (paired_take k t)
theorem paired_drop {α β : Type} {R : α → β → Prop} : ∀ {l : List α} {m : List β} (k : Nat), Paired R l m → Paired R (l.drop k) (m.drop k)
  | _, _, 0, h => h
  | _, _, _ + 1, .nil => .nil
  | _, _, k + 1, .cons _ t => paired_drop k t
/-- the spans by choices -/
def SpEnt (H : Hp) (kv : List Key × V) (q : List Str × List Laid) : Prop := kv.1 = keyOf q.1 ∧ ∃ l us, kv.2 = .ref l ∧ H l = some (.lst us) ∧ L3sAt H us (threes q.2)
abbrev SpAt (H : Hp) (kvs : List (List Key × V)) (acc : Lists) : Prop := Paired (SpEnt H) kvs acc
theorem SpEnt.mono {H H' : Hp} (S : Same H H') {kv : List Key × V} {q : List Str × List Laid} (h : SpEnt H kv q) : SpEnt H' kv q := by
  obtain ⟨h1, l, us, h2, h3, h4⟩ := h
  exact ⟨h1, l, us, h2, S _ _ h3, L2.Paired.mapP h4 fun _ _ z => z.mono S⟩
theorem SpAt.mono {H H' : Hp} (S : Same H H') {kvs : List (List Key × V)} {acc : Lists} (h : SpAt H kvs acc) : SpAt H' kvs acc := L2.Paired.mapP h fun _ _ z => z.mono S
theorem SpAt.get {H : Hp} {c : List Str} : ∀ {kvs : List (List Key × V)} {acc : Lists}, SpAt H kvs acc → c ∈ acc.map (·.1) → ∃ l us, valV kvs (keyOf c) = some (.ref l) ∧ H l = some (.lst us) ∧ L3sAt H us (threes (getL acc c))
  | _, _, .nil, h => by simp at h
  | kv :: kvs, q :: acc, .cons r t, h => by
    by_cases e : q.1 = c
    · obtain ⟨h1, l, us, h2, h3, h4⟩ := r
      refine ⟨l, us, ?_, h3, ?_⟩
      · rw [valV_pos (by rw [h1, e]), h2]
      · unfold getL
        rw [List.find?_cons, decide_eq_true e]
        exact h4
    · have h2 : c ∈ acc.map (·.1) := by
        rcases List.mem_cons.mp (show c ∈ q.1 :: acc.map (·.1) from h) with z | z
        · exact absurd z.symm e
        · exact z
      obtain ⟨l, us, k1, k2, k3⟩ := SpAt.get t h2
      refine ⟨l, us, ?_, k2, ?_⟩
      · rw [valV_neg (fun z => e (key_inj (r.1.symm.trans z))), k1]
      · unfold getL
        rw [List.find?_cons, decide_eq_false e]
        exact k3
section
variable {P : Program} {w : World} {K : PySem.W.Frag} {mg : Str → Option Value} {base : Heap}
def spListRight : Sp := fun vs H Q _ => ∃ v c d kvs S ns, vs = [v, .ref d] ∧ TxtAt H v c ∧ H d = some (.dT kvs) ∧ SpAt H kvs (laidLists S ns) ∧ ns.Nodup ∧ ns.length ≤ 4 ∧ c ≠ [] ∧ c.Sublist ns ∧ ∀ H', Same H H' → Q (.bl true) H'
theorem sc__law_list_right : FnScope ["_law_choice", "_law_spans", "_law_stored", "_law_k", "_law_many", "_law_more", "_law_part", "_law_rest", "_law_three_here", "_law_name"] ["_law_choice", "_law_spans"] (defScope s__law_list_right) := ⟨rfl, rfl, rfl, by decide +kernel, rfl, by decide +kernel, by decide +kernel⟩
theorem F__law_list_right (T : Env w K mg) : Fx P w K mg base "_law_list_right" 6 ["_law_choice", "_law_spans"] spListRight := by
  obtain ⟨fd, F⟩ := T.d__law_list_right
  have F__law_pairs_held := F__law_pairs_held (P := P) (base := base) T
  have F__law_held := F__law_held (P := P) (base := base) T
  have F__law_choices := F__law_choicesA (P := P) (base := base) T
  refine ⟨_, fd, T.glo__law_list_right, F.kp, F.bindsN fun _ _ _ _ _ _ us hl => match us, hl with | [_, _], _ => rfl, ?_⟩
  refine F.ok sc__law_list_right (fun vs H Q E h => ?_) (fun cdv A outer s H vs Q E hr h => ?_)
  · obtain ⟨v, c, d, kvs, S, ns, rfl, _⟩ := h
    rfl
  · obtain ⟨v, c, d, kvs, S, ns, rfl, ⟨p, rfl, hp⟩, hd, hkvs, hnd, h4, c0, cs, k⟩ := h
    refine ⟨_, PSs.nox (pss_cons (ps_setLc (i := 2) (own := [("_law_three_here", 8)]) (g := gName 8) (tt := tYes) (by rfl) sc__law_list_right.nd rfl rfl (sw_true rfl rfl rfl (by decide +kernel)) (pi_list (pe_dget (hu_of hr) (pv 1) (pv 0) (fun _ _ => rfl))) (blkOk_by (own := [("_law_three_here", 8)]) (N := ["_law_choice", "_law_spans", "_law_stored", "_law_k", "_law_many", "_law_more", "_law_part", "_law_rest", "_law_three_here", "_law_name"]) (sc := defScope s__law_list_right) (by decide +kernel)) (fun _ _ _ _ _ => (pg_name (i := 8) sc__law_list_right.nd rfl (Or.inl rfl))) (fun _ _ _ _ _ => pts_nil) (fun _ _ _ _ _ => (pe_callBK (cr_sortedRevK (b := true) K) (by rfl) T.free_sorted (by decide +kernel) (pa_cons (pv 8) pa_nil) (pk_cons pe_bl pk_nil)))) (pss_cons (ps_for PassesOwn.never rfl (pi_range1 rfl T.free_range (pa_cons (pe_callB call_len_seq (by rfl) T.free_len (by decide +kernel) (pa_cons (pv 2) pa_nil)) pa_nil)) (pg_name (i := 3) sc__law_list_right.nd rfl (Or.inl rfl)) (pss_one (ps_if (pt_val (pe_fx F__law_held (hr.mono (by decide)) rfl (pa_cons (pe_ix ix_list (pv 2) (pv 3) (fun _ _ => rfl)) (pa_cons (pe_op op_cat (pe_slice sl_list (pv 2) po_none (po_some (pv 3))) (pe_slice sl_list (pv 2) (po_some (pe_op op_add (pv 3) pe_int)) po_none)) pa_nil)))) (pss_one (ps_ret pe_bl)) pss_nil))) (pss_cons (ps_for PassesOwn.never rfl (pi_range1 rfl T.free_range (pa_cons (pe_op op_sub (pe_callB call_len_seq (by rfl) T.free_len (by decide +kernel) (pa_cons (pv 0) pa_nil)) pe_int) pa_nil)) (pg_name (i := 4) sc__law_list_right.nd rfl (Or.inl rfl)) (pss_one (ps_for PassesOwn.never rfl (pi_list (pe_fx F__law_choices (hr.mono (by decide)) rfl (pa_cons (pe_slice sl_tupA (pv 0) (po_some pe_int) po_none) (pa_cons (pv 4) pa_nil)))) (pg_name (i := 5) sc__law_list_right.nd rfl (Or.inl rfl)) (pss_cons (ps_set (i := 6) sc__law_list_right.nd rfl (Or.inr rfl) (pe_op op_catA (pe_slice sl_tupA (pv 0) po_none (po_some pe_int)) (pv 5))) (pss_cons (ps_set (i := 7) sc__law_list_right.nd rfl (Or.inl rfl) (pe_callTy call_tupS (by rfl) T.free_tuple (by decide +kernel) (pa_cons (pe_lc (own := [("_law_name", 9)]) (g := gName 9)  (by rfl) sc__law_list_right.nd (pi_tup (pv 0)) (blkOk_by (own := [("_law_name", 9)]) (N := ["_law_choice", "_law_spans", "_law_stored", "_law_k", "_law_many", "_law_more", "_law_part", "_law_rest", "_law_three_here", "_law_name"]) (sc := defScope s__law_list_right) (by decide +kernel)) (fun _ _ _ _ _ => (pg_name (i := 9) sc__law_list_right.nd rfl (Or.inl rfl))) (fun _ _ _ _ _ => pts_one (pt_cmpR (op_notIn_seqK K) (pv 9) (pv 6) (by rfl))) (fun _ _ _ _ _ => (pv 9))) pa_nil))) (pss_one (ps_if (pt_not (pt_val (pe_fx F__law_pairs_held (hr.mono (by decide)) rfl (pa_cons (pe_dget (hu_of hr) (pv 1) (pv 6) (fun _ _ => rfl)) (pa_cons (pe_dget (hu_of hr) (pv 1) (pv 7) (fun _ _ => rfl)) (pa_cons (pv 2) pa_nil)))))) (pss_one (ps_ret pe_bl)) pss_nil))))))) (pss_one (ps_ret pe_bl))))), ?_⟩
    have keys : (laidLists S ns).map (·.1) = choicesOf ns := full_keys S ns
    have okA : ListsOk S (laidLists S ns) := by
      have := upTo_ok (S := S) hnd h4 (choicesOf ns).length
      rwa [upTo_all] at this
    have small : ∀ c, (getL (laidLists S ns) c).length ≤ 3000000 := fun c => Nat.le_trans (getL_ok okA c).2 (by unfold mostOf; split <;> omega)
    have dget : ∀ {A : Hp} {b : Addr} {c : List Str}, Same H A → A b = some (.tup (c.map V.str)) → c ≠ [] → c.Sublist ns → ∃ l us, DGet A d (.ref b) (some (.ref l)) ∧ H l = some (.lst us) ∧ L3sAt H us (threes (getL (laidLists S ns) c)) := fun {A b c} s eb c0 cs => by
      obtain ⟨l, us, h1, h2, h3⟩ := SpAt.get hkvs (c := c) (by rw [keys]; exact choices_mem.mpr ⟨c0, cs⟩)
      exact ⟨l, us, dget_of (s _ _ hd) eb h1, h2, h3⟩
    obtain ⟨lc, uc, gc, hlc, huc⟩ := dget (Same.refl _) hp c0 cs
    have luc : uc.length ≤ 3000000 := by
      rw [huc.length]
      unfold threes
      rw [List.length_map]
      exact small c
    refine ⟨_, rfl, _, rfl, d, .ref lc, rfl, gc, ?_⟩
    refine ⟨lc, rfl, ⟨_, SqL.of hlc⟩, fun D hD => lc_src (walk_list (xs := uc)) (fun A s => SqL.of (s _ _ hlc)) hD (Nat.le_trans luc (by decide)) (fun j y A => ∀ t, (descs (getL (laidLists S ns) c))[j]? = some t → L3At A y t) (fun j y A B s z t ht => (z t ht).mono s) (fun j x A ex sA aD Kt kt => ?_) fun A acc sA eD la hR => ?_⟩
    · obtain ⟨t, et, r, rfl, hr⟩ := Paired.at huc ex
      refine ⟨_, rfl, r, t.l, rfl, rfl, SqL.of (sA _ _ hr), fun ns' pn hn ho hpn => ?_⟩
      rw [desc_of hn ho]
      obtain ⟨aL, eL⟩ := aD
      refine kt _ _ (same_upd hpn) fun t' ht' => ⟨pn, rfl, ?_⟩
      have e2 : t' = t.desc := by
        unfold threes at et
        unfold descs at ht'
        rw [List.getElem?_map] at et ht'
        obtain ⟨d1, e1, rfl⟩ := Option.map_eq_some_iff.mp et
        rw [e1] at ht'
        exact (Option.some.inj ht').symm
      rw [e2, off_out fun m => ?_]
      · exact upd_same
      · rw [List.mem_singleton.mp m, eL] at hpn
        cases hpn
    · have hst : L3sAt A acc (descs (getL (laidLists S ns) c)) := paired_of (by rw [la, huc.length]; simp [threes, descs]) fun i x t hx ht => (hR i x hx t ht).mono off_le
      have ldesc : (descs (getL (laidLists S ns) c)).length = acc.length := hst.length.symm
      have lacc : acc.length ≤ 3000000 := by rw [la]; exact luc
      refine ⟨_, rfl, D, _, rfl, .inl (SqL.of eD), acc.length, rfl, by omega, by omega, ?_⟩
      refine for_it (walk_rng (n := acc.length)) (fun i σ H' => Same A H' ∧ ∃ u1, σ = [some (.ref p), some (.ref d), some (.ref D), u1, none, none, none, none, none, none]) ⟨Same.refl _, none, rfl⟩ (fun _ _ _ _ _ => trivial) (fun i x σ B C hi h y => ?_) fun σ B h => ?_
      · obtain ⟨s1, u1, rfl⟩ := h
        obtain ⟨rfl, ex⟩ := y
        obtain ⟨hi, ei⟩ := rng_at ex
        rw [Int.zero_add] at ei
        subst ei
        have eD1 := s1 _ _ eD
        obtain ⟨t, et, ht⟩ := Paired.at hst (List.getElem?_eq_getElem hi)
        have ix : atI acc (i : Int) = some acc[i] := atI_nat (List.getElem?_eq_getElem hi)
        obtain ⟨q0, eq0, e3⟩ : ∃ q0, (getL (laidLists S ns) c)[i]? = some q0 ∧ t = q0.three.desc := by
          unfold descs at et
          rw [List.getElem?_map] at et
          obtain ⟨q0, eq0, e⟩ := Option.map_eq_some_iff.mp et
          exact ⟨q0, eq0, e.symm⟩
        refine ⟨_, rfl, _, rfl, D, _, (i : Int), _, rfl, rfl, SqL.of eD1, ix, ?_⟩
        refine ⟨_, rfl, _, rfl, (i : Int), rfl, D, acc, rfl, SqL.of eD1, fun p1 hp1 => ?_⟩
        have sp1 := same_upd (u := .lst (cutV acc none (some (i : Int)))) hp1
        have ep1 : (upd C p1 (.lst (cutV acc none (some (i : Int))))) p1 = some (.lst (acc.take i)) := by rw [upd_same, cutV_take]
        generalize upd C p1 (.lst (cutV acc none (some (i : Int)))) = C1 at sp1 ep1 ⊢
        refine ⟨_, rfl, _, rfl, _, _, rfl, rfl, ((i + 1 : Nat) : Int), rfl, D, acc, rfl, SqL.of (sp1 _ _ eD1), fun p2 hp2 => ?_⟩
        have sp2 := same_upd (u := .lst (cutV acc (some ((i + 1 : Nat) : Int)) none)) hp2
        have ep2 : (upd C1 p2 (.lst (cutV acc (some ((i + 1 : Nat) : Int)) none))) p2 = some (.lst (acc.drop (i + 1))) := by rw [upd_same, cutV_drop]
        generalize upd C1 p2 (.lst (cutV acc (some ((i + 1 : Nat) : Int)) none)) = C2 at sp2 ep2 ⊢
        refine ⟨p1, p2, _, _, rfl, rfl, sp2 _ _ ep1, ep2, ?_, fun p3 hp3 => ?_⟩
        · rw [List.length_take, List.length_drop]
          exact Nat.le_trans (show _ ≤ 3000000 by omega) (by decide)
        have s3 := same_upd (u := .lst (acc.take i ++ acc.drop (i + 1))) hp3
        have sAll := s1.trans (sp1.trans (sp2.trans s3))
        refine ⟨_, p3, _, (descs (getL (laidLists S ns) c)).take i ++ (descs (getL (laidLists S ns) c)).drop (i + 1), t, rfl, ht.mono sAll, upd_same, ?_, ?_⟩
        · exact L2.Paired.mapP (paired_app (paired_take i hst) (paired_drop (i + 1) hst)) fun _ _ z => z.mono sAll
        rw [e3, apart_any (full_apart hnd c0 cs) eq0]
        refine ⟨_, rfl, iteF ⟨sAll, _, rfl⟩⟩
      · obtain ⟨s1, u1, rfl⟩ := h
        have sHB : Same H B := sA.trans s1
        have hpB := sHB _ _ hp
        refine ⟨_, rfl, p, _, rfl, .inr (SqT.of hpB), ?_⟩
        rw [List.length_map]
        have cl : 1 ≤ c.length := List.length_pos_iff.mpr c0
        have cl4 : c.length ≤ 4 := Nat.le_trans cs.length_le h4
        have cnd : c.Nodup := hnd.sublist cs
        refine ⟨_, _, rfl, rfl, ((c.length : Nat) : Int) - 1, rfl, by omega, by omega, ?_⟩
        rw [show (((c.length : Nat) : Int) - 1).toNat = c.length - 1 by omega]
        have eDB := s1 _ _ eD
        refine for_it walk_range (fun i σ H' => Same B H' ∧ ∃ u1 u2 u3 u4 u5, σ = [some (.ref p), some (.ref d), some (.ref D), u1, u2, u3, u4, u5, none, none]) ⟨Same.refl _, _, _, _, _, _, rfl⟩ (fun _ _ _ _ _ => trivial) (fun i x σ B2 C hi h y => ?_) fun σ B2 h => ?_
        · obtain ⟨s2, u1, u2, u3, u4, u5, rfl⟩ := h
          obtain ⟨rfl, rfl⟩ := y
          have sHC := sHB.trans s2
          refine ⟨_, rfl, ((1 : Nat) : Int), rfl, ?_⟩
          refine slice_fromT (sHC _ _ hp) fun tv B3 s3 h3 => ?_
          rw [← List.map_drop] at h3
          refine ⟨_, rfl, i, by omega, tv, c.drop 1, ?_, h3, by rw [List.length_drop]; omega, fun D1 B4 us1 s4 n1 e4 c4 => ?_⟩
          · show [tv, V.int (0 + (i : Int))] = _
            rw [Int.zero_add]
          have s34 := s3.trans s4
          refine ⟨D1, rfl, ⟨_, SqL.of e4⟩, for_it (walk_list (xs := us1)) (fun j σ H' => Same B4 H' ∧ ∃ u1 u3 u4 u5, σ = [some (.ref p), some (.ref d), some (.ref D), u1, some (.int (0 + (i : Int))), u3, u4, u5, none, none]) ⟨Same.refl _, _, _, _, _, rfl⟩ (fun j σ H' _ h => SqL.of (h.1 _ _ e4)) (fun j x σ B5 B6 hj h y => ?_) fun σ B5 h => ?_⟩
          · obtain ⟨s5, u1, u3, u4, u5, rfl⟩ := h
            obtain ⟨rfl, ex⟩ := y
            obtain ⟨more, em, pm, rfl, hpm⟩ := Paired.at c4 ex
            have mem := chosen_each _ _ more (List.mem_of_getElem? em)
            have ml : more.length ≤ 4 := by
              have := mem.2.length_le
              rw [List.length_drop] at this
              omega
            have sH6 := sHC.trans (s34.trans s5)
            refine ⟨_, rfl, ((1 : Nat) : Int), rfl, ?_⟩
            refine slice_to (sH6 _ _ hp) fun t1 B7 s7 h7 => ?_
            rw [← List.map_take] at h7
            obtain ⟨p1, rfl, hp1⟩ := h7
            refine ⟨_, rfl, cat_tup hp1 ((s5.trans s7) _ _ hpm) ?_ fun t2 B8 s8 h8 => ?_⟩
            · rw [List.length_map, List.length_map, List.length_take]
              exact Nat.le_trans (show min 1 c.length + more.length ≤ 5 by omega) (by decide)
            rw [← List.map_append] at h8
            obtain ⟨p2, rfl, hp2⟩ := h8
            have s58 : Same B6 B8 := s7.trans s8
            have sH8 := sH6.trans s58
            have hpc : SqT K B8 p _ := SqT.of (sH8 _ _ hp)
            refine ⟨_, rfl, p, rfl, ⟨_, hpc⟩, fun D2 hD2 => lc_filt (xs := c.map V.str) walk_tup (by show 9 < 10; decide) (fun A a => Same_tup a hpc) hD2 (by rw [List.length_map]; exact Nat.le_trans cl4 (by decide)) (fun n => decide (c.getD n Str.empty ∉ c.take 1 ++ more)) (fun n x A ex sA Kb kb => ?_) fun A9 sA9 eA => ?_⟩
            · rw [List.getElem?_map] at ex
              obtain ⟨z, ez, rfl⟩ := Option.map_eq_some_iff.mp ex
              have e7 : c.getD n Str.empty = z := by simp [List.getD, ez]
              refine ⟨_, rfl, _, rfl, p2, _, rfl, .inr (SqT.of (sA _ _ hp2)), rfl, flat_strs _, _, rfl, ?_⟩
              rw [show (if true = true then !inV (V.str z) ((c.take 1 ++ more).map V.str) else inV (V.str z) ((c.take 1 ++ more).map V.str)) = !inV (V.str z) ((c.take 1 ++ more).map V.str) from rfl, inV_strs]
              have := kb A (Same.refl _)
              rw [e7] at this
              simpa using this
            · rw [pick_map, pick_filter (fun n => decide (n ∉ c.take 1 ++ more)) 0 c _ (fun n x ex => by
                have e7 : c.getD n Str.empty = x := by simp [List.getD, ex]
                rw [Nat.zero_add, e7])] at eA
              refine ⟨D2, _, rfl, .inl (SqL.of eA), fun v B9 s9 h9 => ?_⟩
              obtain ⟨p9, rfl, hp9⟩ := h9
              have sH9 := sH8.trans (sA9.trans s9)
              have ptm : parted c more ∈ partsOf c := by
                unfold partsOf
                exact List.mem_flatMap.mpr ⟨i, List.mem_range.mpr hi, List.mem_map.mpr ⟨more, List.mem_of_getElem? em, rfl⟩⟩
              obtain ⟨pperm, ps1, ps2, pn1, pn2⟩ := parts_mem cnd ptm
              obtain ⟨l1, us2, g1, h1, hu1⟩ := dget sH9 ((sA9.trans s9) _ _ hp2) pn1 (ps1.trans cs)
              obtain ⟨l2, us3, g2, h2, hu2⟩ := dget sH9 hp9 pn2 (ps2.trans cs)
              refine ⟨_, rfl, _, rfl, d, .ref l1, rfl, g1, ?_⟩
              refine ⟨_, rfl, _, rfl, d, .ref l2, rfl, g2, ?_⟩
              have sAs : Same A B9 := s1.trans (s2.trans (s34.trans (s5.trans (s58.trans (sA9.trans s9)))))
              refine ⟨_, rfl, l1, l2, D, us2, us3, acc, _, _, descs (getL (laidLists S ns) c), rfl, sH9 _ _ h1, sH9 _ _ h2, sAs _ _ eD, L2.Paired.mapP hu1 fun _ _ z => z.mono sH9, L2.Paired.mapP hu2 fun _ _ z => z.mono sH9, L2.Paired.mapP hst fun _ _ z => z.mono sAs, ?_, fun B10 s10 => ?_⟩
              · intro s hs o ho r k
                obtain ⟨d1, hd1, rfl⟩ := List.mem_map.mp hs
                obtain ⟨d2, hd2, rfl⟩ := List.mem_map.mp ho
                refine held_any (pair_held hnd c0 cs ptm hd1 hd2 (w := ⟨r, k, beside d1.three (d2.three.turn r) k⟩) ?_)
                unfold ways waysBy
                exact List.mem_flatMap.mpr ⟨r, List.mem_finRange _, List.mem_map.mpr ⟨k, List.mem_finRange _, rfl⟩⟩
              · exact ⟨_, rfl, iteF ⟨s5.trans (s58.trans (sA9.trans (s9.trans s10))), _, _, _, _, rfl⟩⟩
          · obtain ⟨s5, u1, u3, u4, u5, rfl⟩ := h
            exact ⟨s2.trans (s34.trans s5), _, _, _, _, _, rfl⟩
        · obtain ⟨s2, u1, u2, u3, u4, u5, rfl⟩ := h
          exact k _ (sHB.trans s2)
end
end Bx
set_option Elab.async false
set_option linter.all false
set_option maxRecDepth 100000
set_option maxHeartbeats 1000000
/-! BxY9: shown. -/
namespace Bx
open PySem PySem.Spec PyProof.Rows L2
def leS (a b : Str) : Prop := tx a ≤ tx b
theorem rising_pair : ∀ (p : Str) (l : List Str), risingS p l = true → (p :: l).Pairwise leS
  | p, [], _ => by simp
  | p, x :: r, h => by
    have h2 : (!ltCps x.cps.toList p.cps.toList && risingS x r) = true := h
    rw [Bool.and_eq_true] at h2
    obtain ⟨a, b⟩ := h2
    have ih := rising_pair x r b
    rw [ltCps_eq] at a
    have le1 : leS p x := by
      have : ¬ (tx x < tx p) := by simpa using a
      exact List.not_lt.mp this
    refine List.pairwise_cons.mpr ⟨fun y hy => ?_, ih⟩
    rcases List.mem_cons.mp hy with rfl | hy
    · exact le1
    · exact List.le_trans le1 ((List.pairwise_cons.mp ih).1 y hy)
theorem sorted_pair : ∀ (l : List Str), sortedS l = true → l.Pairwise leS
  | [], _ => .nil
  | x :: r, h => rising_pair x r h
theorem sorted_uniq {a b : List Str} (h : sortedS a = true) (k : sortedS b = true) (p : a.Perm b) : a = b :=
  List.Perm.eq_of_pairwise (le := leS) (fun x y _ _ h1 h2 => tx_inj (List.le_antisymm h1 h2)) (sorted_pair a h) (sorted_pair b k) p
abbrev strD (l : List Str) : PyData := .list (l.map PyData.str)
theorem dp_strs {K : PySem.W.Frag} {H : Hp} : ∀ l : List Str, DpAll K H (l.map V.str) (l.map PyData.str)
  | [] => .nil
  | x :: r => .cons (.str x) (dp_strs r)
theorem letters_ok : ∀ c ∈ tx letters, c < 0x110000 := by decide +kernel
theorem name_ok {x : Str} (h : isName x) : PyData.strOk x = true := by
  unfold PyData.strOk
  rw [Array.all_eq_true_iff_forall_mem]
  intro c hc
  exact decide_eq_true (letters_ok c (h.2.2 c (Array.mem_toList_iff.mpr hc)))
theorem strs_lay : ∀ l : List Str, (∀ x ∈ l, isName x) → PyData.canLayAll0 (l.map PyData.str) = true
  | [], _ => by simp [PyData.canLayAll0]
  | x :: r, h => by
    have h1 := name_ok (h x (List.mem_cons_self ..))
    have h2 := strs_lay r fun y hy => h y (List.mem_cons_of_mem _ hy)
    simp only [List.map_cons, PyData.canLayAll0, PyData.canLay0, h1, h2, Bool.and_self]
theorem strs_depth : ∀ l : List Str, PyData.depthAll (l.map PyData.str) ≤ 1
  | [] => by simp [PyData.depthAll]
  | x :: r => by
    have := strs_depth r
    simp only [List.map_cons, PyData.depthAll, PyData.depth]
    omega
theorem strD_shaped {l : List Str} (hn : ∀ x ∈ l, isName x) : SeqAt.shaped (strD l) = true := by
  have h := strs_depth l
  show (PyData.canLay0 (strD l) && decide (PyData.depth (strD l) ≤ 64)) = true
  rw [Bool.and_eq_true]
  refine ⟨by simp only [PyData.canLay0]; exact strs_lay l hn, decide_eq_true ?_⟩
  simp only [PyData.depth]
  omega
theorem strD_eqv {l : List Str} (hn : ∀ x ∈ l, isName x) : PyData.eqv (strD l) (strD l) = true := SeqAt.eqv_refl _ (by simp only [PyData.canLay0]; exact strs_lay l hn)
theorem strD_ne {a b : List Str} (h : a = b) (hn : ∀ x ∈ b, isName x) : (!PyData.eqv (strD a) (strD b)) = false := by
  rw [h, strD_eqv hn]
  rfl
theorem PaAt.get {K : PySem.W.Frag} {H0 H : Hp} {c : List Str} : ∀ {kvs : List (List Key × V)} {acc : Lists}, PaAt K H0 H kvs acc → c ∈ acc.map (·.1) → ∃ l us, valV kvs (keyOf c) = some (.ref l) ∧ H0 l = none ∧ H l = some (.lst us) ∧ Paired (fun v (x : Laid) => LayAt K H v x.paper) us (getL acc c)
  | _, _, .nil, h => by simp at h
  | kv :: kvs, q :: acc, .cons r t, h => by
    by_cases e : q.1 = c
    · obtain ⟨h1, l, us, h2, h3, h4, h5⟩ := r
      refine ⟨l, us, ?_, h3, h4, ?_⟩
      · rw [valV_pos (by rw [h1, e]), h2]
      · unfold getL
        rw [List.find?_cons, decide_eq_true e]
        exact h5
    · have h2 : c ∈ acc.map (·.1) := by
        rcases List.mem_cons.mp (show c ∈ q.1 :: acc.map (·.1) from h) with z | z
        · exact absurd z.symm e
        · exact z
      obtain ⟨l, us, k1, k2, k3, k4⟩ := PaAt.get t h2
      refine ⟨l, us, ?_, k2, k3, ?_⟩
      · rw [valV_neg (fun z => e (key_inj (r.1.symm.trans z))), k1]
      · unfold getL
        rw [List.find?_cons, decide_eq_false e]
        exact k4
theorem getL_at : ∀ {acc : Lists} {i : Nat} {q : List Str × List Laid}, (acc.map (·.1)).Nodup → acc[i]? = some q → getL acc q.1 = q.2
  | [], _, _, _, h => by simp at h
  | q0 :: r, 0, q, _, h => by
    obtain rfl : q0 = q := Option.some.inj h
    unfold getL
    rw [List.find?_cons, decide_eq_true rfl]
    rfl
  | q0 :: r, i + 1, q, nd, h => by
    have h : r[i]? = some q := h
    have nd2 := List.nodup_cons.mp (show (q0.1 :: r.map (·.1)).Nodup from nd)
    have ne : q0.1 ≠ q.1 := fun z => nd2.1 (by rw [z]; exact List.mem_map.mpr ⟨q, List.mem_of_getElem? h, rfl⟩)
    have ih := getL_at nd2.2 h
    unfold getL at ih ⊢
    rw [List.find?_cons, decide_eq_false ne]
    exact ih
theorem SpAt.new {H : Hp} {c : List Str} : ∀ {kvs : List (List Key × V)} {acc : Lists}, SpAt H kvs acc → c ∉ acc.map (·.1) → valV kvs (keyOf c) = none
  | _, _, .nil, _ => rfl
  | kv :: kvs, q :: acc, .cons r t, h => by
    rw [valV_neg (fun z => h (List.mem_cons.mpr (.inl (key_inj (r.1.symm.trans z)).symm))), SpAt.new t fun z => h (List.mem_cons_of_mem _ z)]
theorem pick_none {α : Type} : ∀ (n : Nat) (l : List α), pick (fun _ => false) n l = []
  | _, [] => rfl
  | n, a :: r => pick_none (n + 1) r
section
variable {P : Program} {w : World} {K : PySem.W.Frag} {mg : Str → Option Value} {base : Heap}
def spShown (K : PySem.W.Frag) : Sp := fun vs H Q _ => ∃ b S ks p ns d kvs H0, vs = [b, .ref p, .ref d] ∧ BookAt H b S ks ∧ SqL K H p ((ns : List Str).map V.str) ∧ H d = some (.dT kvs) ∧ PaAt K H0 H kvs (laidLists S ns) ∧ ns.Nodup ∧ ns.length ≤ 4 ∧ (∀ n ∈ ns, n ∈ ks ∧ isName n) ∧ ∀ H', Same H H' → Q (.bl true) H'
theorem sc__law_shown : FnScope ["_law_book_here", "_law_names_here", "_law_thing", "_law_choices_here", "_law_spans", "_law_choice", "_law_paper", "_law_found"] ["_law_book_here", "_law_names_here", "_law_thing"] (defScope s__law_shown) := ⟨rfl, rfl, rfl, by decide +kernel, rfl, by decide +kernel, by decide +kernel⟩
theorem F__law_shown (T : Env w K mg) : Fx P w K mg base "_law_shown" 7 ["_law_book_here", "_law_names_here", "_law_thing"] (spShown K) := by
  obtain ⟨fd, F⟩ := T.d__law_shown
  have F__law_all_choices := F__law_all_choices (P := P) (base := base) T
  have F__law_named := F__law_named (P := P) (base := base) T 3
  have F__law_span := F__law_span (P := P) (base := base) T 3
  have F__law_list_right := F__law_list_right (P := P) (base := base) T
  refine ⟨_, fd, T.glo__law_shown, F.kp, F.bindsN fun _ _ _ _ _ _ us hl => match us, hl with | [_, _, _], _ => rfl, ?_⟩
  refine F.ok sc__law_shown (fun vs H Q E h => ?_) (fun cdv A outer s H vs Q E hr h => ?_)
  · obtain ⟨b, S, ks, p, ns, d, kvs, H0, rfl, _⟩ := h
    rfl
  · obtain ⟨b, S, ks, p, ns, d, kvs, H0, rfl, hb, hp, hd, hkvs, hnd, h4, hin, k⟩ := h
    refine ⟨_, PSs.nox (pss_cons (ps_set (i := 3) sc__law_shown.nd rfl (Or.inl rfl) (pe_fx F__law_all_choices (hr.mono (by decide)) rfl (pa_cons (pv 1) pa_nil))) (pss_cons (ps_if (PW.pt (pw_or (pt_not (pt_val (pe_callB call_isi (by rfl) T.free_isinstance (by decide +kernel) (pa_cons (pv 2) (pa_cons (pe_bltn (v := .ty "dict") (u := .type "dict") (by rfl) T.free_dict (by decide +kernel) rfl) pa_nil))))) (pw_or1 (pt_cmpR op_ne (pe_callB call_len_dT (by rfl) T.free_len (by decide +kernel) (pa_cons (pv 2) pa_nil)) (pe_callB call_len_seq (by rfl) T.free_len (by decide +kernel) (pa_cons (pv 3) pa_nil)) (nomark _))))) (pss_one (ps_ret pe_bl)) pss_nil) (pss_cons (ps_set (i := 4) sc__law_shown.nd rfl (Or.inr rfl) pe_dnewT) (pss_cons (ps_for PassesOwn.never rfl (pi_list (pv 3)) (pg_name (i := 5) sc__law_shown.nd rfl (Or.inl rfl)) (pss_cons (ps_if (PW.pt (pw_or (pt_cmp (pc_dnotin (hu_of hr) (pv 5) (pv 2))) (pw_or (pt_not (pt_val (pe_callB call_isi (by rfl) T.free_isinstance (by decide +kernel) (pa_cons (pe_dget (hu_of hr) (pv 2) (pv 5) (fun _ _ => rfl)) (pa_cons (pe_bltn (v := .ty "list") (u := .type "list") (by rfl) T.free_list (by decide +kernel) rfl) pa_nil))))) (pw_or1 (pt_cmpR op_eq (pe_callB call_len_seq (by rfl) T.free_len (by decide +kernel) (pa_cons (pe_dget (hu_of hr) (pv 2) (pv 5) (fun _ _ => rfl)) pa_nil)) pe_int (nomark _)))))) (pss_one (ps_ret pe_bl)) pss_nil) (pss_cons (ps_for PassesOwn.never rfl (pi_list (pe_dget (hu_of hr) (pv 2) (pv 5) (fun _ _ => rfl))) (pg_name (i := 6) sc__law_shown.nd rfl (Or.inl rfl)) (pss_cons (ps_set (i := 7) sc__law_shown.nd rfl (Or.inl rfl) (pe_fx F__law_named (hr.mono (by decide)) rfl (pa_cons (pv 0) (pa_cons (pv 6) pa_nil)))) (pss_one (ps_if (PW.pt (pw_or (pt_cmpR op_isN (pv 7) pe_non (nomark _)) (pw_or1 (pt_cmpR (op_neD hr.units) (pe_callB cr_sortedS (by rfl) T.free_sorted (by decide +kernel) (pa_cons (pv 7) pa_nil)) (pe_callB cr_sortTS (by rfl) T.free_sorted (by decide +kernel) (pa_cons (pv 5) pa_nil)) (nomark _))))) (pss_one (ps_ret pe_bl)) pss_nil)))) (pss_one (ps_dput (hu_of hr) (pv 4) (pv 5) (pe_lc (own := [("_law_paper", 6)]) (g := gName 6) (tt := tYes) (by rfl) sc__law_shown.nd (pi_list (pe_dget (hu_of hr) (pv 2) (pv 5) (fun _ _ => rfl))) (blkOk_by (own := [("_law_paper", 6)]) (N := ["_law_book_here", "_law_names_here", "_law_thing", "_law_choices_here", "_law_spans", "_law_choice", "_law_paper", "_law_found"]) (sc := defScope s__law_shown) (by decide +kernel)) (fun _ _ _ _ _ => (pg_name (i := 6) sc__law_shown.nd rfl (Or.inl rfl))) (fun _ _ _ _ _ => pts_nil) (fun _ _ _ _ _ => (pe_fx F__law_span (hr.mono (by decide)) rfl (pa_cons (pv 0) (pa_cons (pv 6) pa_nil))))) rfl))))) (pss_one (ps_ret (pe_cmpR (op_eqD hr.units) (pe_lc (own := [("_law_choice", 5)]) (g := gName 5)  (by rfl) sc__law_shown.nd (pi_list (pv 3)) (blkOk_by (own := [("_law_choice", 5)]) (N := ["_law_book_here", "_law_names_here", "_law_thing", "_law_choices_here", "_law_spans", "_law_choice", "_law_paper", "_law_found"]) (sc := defScope s__law_shown) (by decide +kernel)) (fun _ _ _ _ _ => (pg_name (i := 5) sc__law_shown.nd rfl (Or.inl rfl))) (fun _ _ _ _ _ => pts_one (pt_not (pt_val (pe_fx F__law_list_right (hr.mono (by decide)) rfl (pa_cons (pv 5) (pa_cons (pv 4) pa_nil)))))) (fun _ _ _ _ _ => (pv 5))) (pe_lst pa_nil) (nomark _)))))))), ?_⟩
    have keys : (laidLists S ns).map (·.1) = choicesOf ns := full_keys S ns
    have okA : ListsOk S (laidLists S ns) := by
      have := upTo_ok (S := S) hnd h4 (choicesOf ns).length
      rwa [upTo_all] at this
    have small : ∀ c, (getL (laidLists S ns) c).length ≤ 3000000 := fun c => Nat.le_trans (getL_ok okA c).2 (by unfold mostOf; split <;> omega)
    refine ⟨_, rfl, p, ns, rfl, hp, h4, fun C H1 cs s1 n1 e1 hc1 => ?_⟩
    have klen : kvs.length = (choicesOf ns).length := by rw [hkvs.length, ← keys, List.length_map]
    refine ⟨_, rfl, _, _, .type "dict", .type "dict", true, rfl, .ty _, .base (.dT (s1 _ _ hd)), kit_ty (by decide +kernel), _, rfl, iteF ?_⟩
    refine ⟨_, rfl, d, kvs, rfl, s1 _ _ hd, ?_⟩
    refine ⟨_, rfl, C, _, rfl, .inl (SqL.of e1), ?_⟩
    rw [hc1.length, klen]
    refine ⟨rfl, _, rfl, iteE false (by simp) ?_⟩
    intro D hD
    have nD : H D = none := by
      cases z : H D with
      | none => rfl
      | some u => rw [s1 _ _ z] at hD; cases hD
    have s2 : Same H1 (upd H1 D (.dT [])) := same_upd hD
    have nCD : C ≠ D := fun z => by rw [← z, e1] at hD; cases hD
    refine ⟨_, rfl, C, rfl, ⟨_, SqL.of (s2 _ _ e1)⟩, for_it (walk_list (xs := cs)) (fun i σ H' => ∃ kvs' u1 u2 u3, σ = [some b, some (.ref p), some (.ref d), some (.ref C), some (.ref D), u1, u2, u3] ∧ Same H1 H' ∧ H' D = some (.dT kvs') ∧ SpAt (off [D] H') kvs' ((laidLists S ns).take i))
      ⟨[], none, none, none, rfl, s2, upd_same, by rw [List.take_zero]; exact .nil⟩ (fun i σ H' _ h => ?_) (fun i x σ A B hi h y => ?_) fun σ A h => ?_⟩
    · obtain ⟨_, _, _, _, _, s3, _⟩ := h
      exact SqL.of (s3 _ _ e1)
    · obtain ⟨kvs', u1, u2, u3, rfl, s3, eD, hsp⟩ := h
      obtain ⟨rfl, ex⟩ := y
      obtain ⟨c, ec, pc, rfl, hpc⟩ := Paired.at hc1 ex
      obtain ⟨c0, csub⟩ := choices_mem.mp (List.mem_of_getElem? ec)
      have cl4 : c.length ≤ 4 := Nat.le_trans csub.length_le h4
      have sB : Same H B := s1.trans s3
      obtain ⟨l, us, k1, _, k3, k4⟩ := PaAt.get hkvs (c := c) (by rw [keys]; exact List.mem_of_getElem? ec)
      have gd : ∀ {A : Hp}, Same B A → DGet A d (.ref pc) (some (.ref l)) := fun s => dget_of (s _ _ (sB _ _ hd)) (s _ _ (s3 _ _ hpc)) k1
      have el : ∀ {A : Hp}, Same B A → A l = some (.lst us) := fun s => s _ _ (sB _ _ k3)
      have lus : us.length = (getL (laidLists S ns) c).length := k4.length
      have gne := full_ne (S := S) hnd c0 csub
      have lpos : 0 < us.length := by rw [lus]; exact List.length_pos_iff.mpr gne
      have okL := (getL_ok okA c).1
      have nmc : ∀ n ∈ c, n ∈ ks ∧ isName n := fun n hn => hin n (csub.subset hn)
      have each : ∀ {j : Nat} {x : V}, us[j]? = some x → ∃ q, (getL (laidLists S ns) c)[j]? = some q ∧ LayAt K H x q.paper ∧ q.paper.depth ≤ 3 ∧ q.paper.names.length ≤ 1000 ∧ (∀ n ∈ q.paper.names, n ∈ ks) ∧ q.paper.names.Perm c ∧ q.three = q.paper.span S := fun {j x} ex => by
        obtain ⟨q, eq, hq⟩ := Paired.at k4 ex
        have ok := okL q (List.mem_of_getElem? eq)
        have le := ok.1.length_eq
        have dl := Lay.depth_lt q.paper
        exact ⟨q, eq, hq, by omega, by omega, fun n hn => (nmc n (ok.1.subset hn)).1, ok.1, ok.2⟩
      refine ⟨_, rfl, _, rfl, d, _, rfl, gd (Same.refl _), _, rfl, iteF ?_⟩
      refine ⟨_, rfl, _, rfl, d, _, rfl, gd (Same.refl _), _, _, .type "list", .type "list", true, rfl, .ty _, .base (.lst (el (Same.refl _))), kit_ty (by decide +kernel), _, rfl, iteF ?_⟩
      refine ⟨_, rfl, _, rfl, d, _, rfl, gd (Same.refl _), l, _, rfl, .inl (SqL.of (el (Same.refl _))), rfl, _, rfl, iteE false (decide_eq_false fun z => ?_) ?_⟩
      · injection z with z
        omega
      refine ⟨_, rfl, _, rfl, d, _, rfl, gd (Same.refl _), l, rfl, ⟨_, SqL.of (el (Same.refl _))⟩, for_it (walk_list (xs := us)) (fun j σ H' => Same B H' ∧ ∃ u2 u3, σ = [some b, some (.ref p), some (.ref d), some (.ref C), some (.ref D), some (.ref pc), u2, u3]) ⟨Same.refl _, _, _, rfl⟩ (fun j σ H' _ h => SqL.of (el h.1)) (fun j x σ A2 B2 hj h y => ?_) fun σ A2 h => ?_⟩
      · obtain ⟨s4, u2, u3, rfl⟩ := h
        obtain ⟨rfl, ex2⟩ := y
        obtain ⟨q, eq, hq, dq, lq, nq, pq, _⟩ := each ex2
        have sHB2 := sB.trans s4
        refine ⟨_, rfl, _, rfl, b, S, ks, x, q.paper, rfl, hb.mono sHB2, hq.mono sHB2, dq, lq, nq, fun r A3 s5 nr er => ?_⟩
        refine ⟨_, rfl, rfl, _, rfl, iteF ?_⟩
        have l64 := pq.length_eq
        refine ⟨_, rfl, r, q.paper.names, rfl, SqL.of er, by omega, fun ys1 p1 perm1 so1 hp1 => ?_⟩
        have s6 := same_upd (u := .lst (ys1.map V.str)) hp1
        have ep1 : (upd A3 p1 (.lst (ys1.map V.str))) p1 = some (.lst (ys1.map V.str)) := upd_same
        generalize upd A3 p1 (.lst (ys1.map V.str)) = A4 at s6 ep1 ⊢
        refine ⟨_, rfl, pc, c, rfl, SqT.of ((s4.trans (s5.trans s6)) _ _ (s3 _ _ hpc)), fun ys2 p2 perm2 so2 hp2 => ?_⟩
        have s7 := same_upd (u := .lst (ys2.map V.str)) hp2
        have e12 : ys1 = ys2 := sorted_uniq so1 so2 (perm1.trans (pq.trans perm2.symm))
        have nm2 : ∀ x ∈ ys2, isName x := fun x hx => (nmc x (perm2.subset hx)).2
        refine ⟨strD ys1, strD ys2, .lst (SqL.of (s7 _ _ ep1)) (dp_strs _), .lst (SqL.of upd_same) (dp_strs _), strD_shaped (by rw [e12]; exact nm2), strD_shaped nm2, _, rfl, iteE false (strD_ne e12 nm2) ?_⟩
        exact ⟨s4.trans (s5.trans (s6.trans s7)), _, _, rfl⟩
      · obtain ⟨s4, u2, u3, rfl⟩ := h
        refine ⟨_, rfl, _, rfl, d, _, rfl, gd s4, l, rfl, ⟨_, SqL.of (el s4)⟩, fun D2 hD2 => lc_src (walk_list (xs := us)) (fun A s => SqL.of (el (s4.trans s))) hD2 (by rw [lus]; exact Nat.le_trans (small c) (by decide)) (fun j y A => ∀ q : Laid, (getL (laidLists S ns) c)[j]? = some q → L3At A y q.three) (fun j y A B s z q hq => (z q hq).mono s) (fun j x A5 ex5 sA5 aD Kt kt => ?_) fun A5 acc sA5 eD2 la hR => ?_⟩
        · obtain ⟨q, eq, hq, dq, lq, nq, pq, sq⟩ := each ex5
          obtain ⟨aL, eL⟩ := aD
          have sHA5 := sB.trans (s4.trans sA5)
          refine ⟨_, rfl, _, rfl, b, S, ks, x, q.paper, rfl, hb.mono sHA5, hq.mono sHA5, dq, nq, fun r A6 s6 nr er => kt _ _ s6 fun q' hq' => ?_⟩
          rw [eq] at hq'
          obtain rfl := Option.some.inj hq'
          refine ⟨r, rfl, ?_⟩
          rw [off_out fun m => ?_]
          · rw [sq]
            exact er
          · rw [List.mem_singleton.mp m, eL] at nr
            cases nr
        · have s5 := s4.trans sA5
          have nDD : D2 ≠ D := fun z => by rw [z, s4 _ _ eD] at hD2; cases hD2
          obtain ⟨q, eq, hqc⟩ : ∃ q, (laidLists S ns)[i]? = some q ∧ q.1 = c := by
            have e := ec
            rw [← keys, List.getElem?_map] at e
            obtain ⟨q, e1, e2⟩ := Option.map_eq_some_iff.mp e
            exact ⟨q, e1, e2⟩
          have knd : ((laidLists S ns).map (·.1)).Nodup := by rw [keys]; exact choices_nodup hnd
          have e2 : getL (laidLists S ns) c = q.2 := by
            rw [← hqc]
            exact getL_at knd eq
          have ki : c ∉ ((laidLists S ns).take i).map (·.1) := by
            rw [List.map_take, keys]
            exact take_not (choices_nodup hnd) ec
          have nv := SpAt.new hsp ki
          have lk : kvs'.length < sizeLine := by
            rw [hsp.length, List.length_take]
            have : (laidLists S ns).length ≤ 16 := by
              rw [← List.length_map (f := (·.1)), keys]
              exact choices_len h4
            exact Nat.lt_of_le_of_lt (show _ ≤ 16 by omega) (by decide)
          refine ⟨_, rfl, _, rfl, D, _, rfl, DPut.t (k := keyOf c) (s5 _ _ eD) (by rw [key_v]; exact s5 _ _ (s3 _ _ hpc)) lk, ?_⟩
          rw [putK_new _ nv]
          refine ⟨_, _, _, _, rfl, fun b' u' z => ?_, upd_same, ?_⟩
          · rw [upd_ne fun e => by rw [e, hD] at z; cases z]
            exact s5 _ _ (s3 _ _ z)
          · rw [off_upd (by simp), List.take_add_one, eq]
            refine paired_app (hsp.mono (off_mono s5)) (.cons ⟨by rw [hqc], D2, acc, rfl, ?_, ?_⟩ .nil)
            · rw [off_out (by simpa using nDD)]
              exact eD2
            · rw [← e2]
              refine paired_of (by rw [la, lus]; simp [threes]) fun j y t hy ht => ?_
              unfold threes at ht
              rw [List.getElem?_map] at ht
              obtain ⟨q', eq', rfl⟩ := Option.map_eq_some_iff.mp ht
              obtain ⟨r, rfl, hr⟩ := hR j y hy q' eq'
              refine ⟨r, rfl, ?_⟩
              have hr2 := off_le _ _ hr
              rw [off_out fun m => ?_]
              · exact hr2
              · rw [List.mem_singleton.mp m, s5 _ _ eD] at hr2
                cases hr2
    · obtain ⟨kvs', u1, u2, u3, rfl, s3, eD, hsp⟩ := h
      rw [hc1.length, ← keys, List.length_map, List.take_length] at hsp
      have lcs : cs.length ≤ 16 := by rw [hc1.length]; exact choices_len h4
      refine ⟨_, rfl, C, rfl, ⟨_, SqL.of (s3 _ _ e1)⟩, fun D2 hD2 => lc_filt (xs := cs) walk_list (by show 5 < 8; decide) (fun A s => SqL.of (s _ _ (s3 _ _ e1))) hD2 (Nat.le_trans lcs (by decide)) (fun _ => false) (fun j x A5 ex sA Kb kb => ?_) fun A5 sA eA => ?_⟩
      · obtain ⟨c, ec, pc, rfl, hpc⟩ := Paired.at hc1 ex
        obtain ⟨c0, csub⟩ := choices_mem.mp (List.mem_of_getElem? ec)
        refine ⟨_, rfl, _, rfl, .ref pc, c, D, kvs', S, ns, rfl, ⟨pc, rfl, sA _ _ (s3 _ _ hpc)⟩, sA _ _ eD, (hsp.mono off_le).mono sA, hnd, h4, c0, csub, fun A6 s6 => ?_⟩
        exact ⟨_, rfl, kb A6 s6⟩
      · have e0 : pick (fun _ => false) 0 cs = [] := by
          exact pick_none 0 cs
        rw [e0] at eA
        refine ⟨Nat.zero_le _, fun l0 hl0 => ?_⟩
        have s7 := same_upd (u := .lst []) hl0
        refine ⟨.list [], .list [], .lst (SqL.of (s7 _ _ eA)) .nil, .lst (SqL.of upd_same) .nil, by decide, by decide, ?_⟩
        exact k _ (s1.trans (s3.trans (sA.trans s7)))
end
end Bx
set_option Elab.async false
set_option linter.all false
set_option maxRecDepth 100000
set_option maxHeartbeats 1000000
/-! BxY10: right. -/
namespace Bx
open PySem PySem.Spec PyProof.Rows L2
theorem vol_fits {t : T3} (h : okT t) : 1 ≤ t.vol ∧ t.vol ≤ 1000000000000000 := by
  obtain ⟨⟨x1, x2⟩, ⟨y1, y2⟩, z1, z2⟩ := h
  have a : 1 ≤ t.x * t.y := by
    have := Int.mul_le_mul x1 y1 (by omega) (by omega)
    omega
  have b : t.x * t.y ≤ 100000 * 100000 := Int.mul_le_mul x2 y2 (by omega) (by omega)
  have c : 1 ≤ t.x * t.y * t.z := by
    have := Int.mul_le_mul a z1 (by omega) (by omega)
    omega
  have d : t.x * t.y * t.z ≤ 10000000000 * 100000 := Int.mul_le_mul (by omega) z2 (by omega) (by omega)
  exact ⟨c, by show t.x * t.y * t.z ≤ _; omega⟩
/-- what is told of these names, by these sides -/
structure ToldAt (K : PySem.W.Frag) (H0 H : Hp) (S : Str → T3) (ns : List Str) (t d : Addr) (vp : V) (kvs : List (List Key × V)) (i : Nat) (q : Laid) : Prop where
  tup : H t = some (.tup [.int q.three.vol, vp, .ref d])
  lay : LayAt K H vp q.paper
  dct : H d = some (.dT kvs)
  ents : PaAt K H0 H kvs (laidLists S ns)
  fst : IsFirst (getL (laidLists S ns) ns) i q
theorem ToldAt.mono {K : PySem.W.Frag} {H0 H H' : Hp} (s : Same H H') {S : Str → T3} {ns : List Str} {t d : Addr} {vp : V} {kvs : List (List Key × V)} {i : Nat} {q : Laid} (h : ToldAt K H0 H S ns t d vp kvs i q) : ToldAt K H0 H' S ns t d vp kvs i q :=
  ⟨s _ _ h.tup, h.lay.mono s, s _ _ h.dct, h.ents.mono s, h.fst⟩
theorem least_all {S : Str → T3} {ns : List Str} {ps : List Par} (hg : GoodNames ps S ns) (hok : ∀ n ∈ ns, okT (S n)) {i : Nat} {q : Laid} (hf : IsFirst (getL (laidLists S ns) ns) i q) {L : Lay} (hp : L.names.Perm ns) : q.three.vol ≤ (L.span S).vol := by
  obtain ⟨h, hm, hd⟩ := all_held (S := S) hg.nd L ns (List.Sublist.refl _) hp
  have ok := upTo_ok (S := S) hg.nd hg.few (choicesOf ns).length
  rw [upTo_all] at ok
  have okh := (getL_ok ok ns).1 h hm
  obtain ⟨j, hj⟩ := List.getElem?_of_mem hm
  have h1 := (hf.2 j h hj).1
  have fits : okT h.three := by
    rw [okh.2]
    exact span_fits okh.1 hok hg.fit
  have h2 := dom_vol (fun k => (fits.get k).1) hd
  omega
theorem seq_sm {K : PySem.W.Frag} {H A : Hp} {q r : Addr} {xs : List V} (n : r ≠ q) (hr : SqL K H r xs) (s : Sm [q] H A) : SqL K A r xs := by
  rcases hr with (h | ⟨o, h⟩) | h
  · exact .inl (.inl (s _ _ (fun z => n (List.mem_singleton.mp z)) h))
  · exact .inl (.inr ⟨o, s _ _ (fun z => n (List.mem_singleton.mp z)) h⟩)
  · exact .inr h
section
variable {P : Program} {w : World} {K : PySem.W.Frag} {mg : Str → Option Value} {base : Heap}
def spLRight (K : PySem.W.Frag) : Sp := fun vs H Q _ => ∃ q B a dx l xs ps b S ks p ns t d vp kvs i q0 H0, vs = [.ref q, .ref a, b, .ref p, .ref t] ∧ PurseAt H q B ∧ B ≤ 800000 ∧ HpAt K (off [q] H) a dx l xs ps ∧ SaysT S ps ∧ BookAt (off [q] H) b S ks ∧
  p ≠ q ∧ SqL K H p ((ns : List Str).map V.str) ∧ GoodNames ps S ns ∧ (∀ n ∈ ns, n ∈ ks ∧ isName n) ∧ ToldAt K H0 (off [q] H) S ns t d vp kvs i q0 ∧ ∀ H', Sm [q] H H' → PurseAt H' q (B + 400) → Q (.bl true) H'
theorem sc__law_right : FnScope ["_law_purse_here", "_law_kept", "_law_book_here", "_law_names_here", "_law_found", "_law_volume_here", "_law_paper", "_law_lists", "_law_told", "_law_turn", "_law_some"] ["_law_purse_here", "_law_kept", "_law_book_here", "_law_names_here", "_law_found"] (defScope s__law_right) := ⟨rfl, rfl, rfl, by decide +kernel, rfl, by decide +kernel, by decide +kernel⟩
theorem F__law_right (T : Env w K mg) : Fx P w K mg base "_law_right" 14 ["_law_purse_here", "_law_kept", "_law_book_here", "_law_names_here", "_law_found"] (spLRight K) := by
  obtain ⟨fd, F⟩ := T.d__law_right
  have F__law_is_whole := F__law_is_whole (P := P) (base := base) T
  have F__law_named := F__law_named (P := P) (base := base) T 3
  have F__law_volume := F__law_volume (P := P) (base := base) T 3
  have F_sides_of := F_sides_of (P := P) (base := base) T
  have F_Sides_volume := F_Sides_volume (P := P) (base := base) T
  have F__law_shown := F__law_shown (P := P) (base := base) T
  have F__law_laying := F__law_laying (P := P) (base := base) T
  have F__law_picked := F__law_picked (P := P) (base := base) T
  refine ⟨_, fd, T.glo__law_right, F.kp, F.bindsN fun _ _ _ _ _ _ us hl => match us, hl with | [_, _, _, _, _], _ => rfl, ?_⟩
  refine F.ok sc__law_right (fun vs H Q E h => ?_) (fun cdv A outer s H vs Q E hr h => ?_)
  · obtain ⟨q, B, a, dx, l, xs, ps, b, S, ks, p, ns, t, d, vp, kvs, i, q0, H0, rfl, _⟩ := h
    rfl
  · obtain ⟨q, B, a, dx, l, xs, ps, b, S, ks, p, ns, t, d, vp, kvs, i, q0, H0, rfl, hq, hB, hh, hS, hb, npq, hp, hg, hin, ht, k⟩ := h
    refine ⟨_, PSs.nox (pss_cons (ps_if (PW.pt (pw_or (pt_not (pt_val (pe_callB call_isi (by rfl) T.free_isinstance (by decide +kernel) (pa_cons (pv 4) (pa_cons (pe_bltn (v := .ty "tuple") (u := .type "tuple") (by rfl) T.free_tuple (by decide +kernel) rfl) pa_nil))))) (pw_or (pt_cmpR op_ne (pe_callB call_len_seq (by rfl) T.free_len (by decide +kernel) (pa_cons (pv 4) pa_nil)) pe_int (nomark _)) (pw_or1 (pt_not (pt_val (pe_fx F__law_is_whole (hr.mono (by decide)) rfl (pa_cons (pe_ix ix_tup (pv 4) pe_int (fun _ _ => rfl)) (pa_cons pe_int (pa_cons (pe_op op_pow pe_int pe_int) pa_nil)))))))))) (pss_one (ps_ret pe_bl)) pss_nil) (pss_cons (ps_asg (pv 4) (pg_tup (by rfl) (pgs_cons (pg_name (i := 5) sc__law_right.nd rfl (Or.inr rfl)) (pgs_cons (pg_name (i := 6) sc__law_right.nd rfl (Or.inl rfl)) (pgs_cons (pg_name (i := 7) sc__law_right.nd rfl (Or.inl rfl)) pgs_nil))))) (pss_cons (ps_set (i := 8) sc__law_right.nd rfl (Or.inl rfl) (pe_fx F__law_named (hr.mono (by decide)) rfl (pa_cons (pv 2) (pa_cons (pv 6) pa_nil)))) (pss_cons (ps_if (PW.pt (pw_or (pt_cmpR op_isN (pv 8) pe_non (nomark _)) (pw_or (pt_cmpR (op_neD hr.units) (pe_callB cr_sortedS (by rfl) T.free_sorted (by decide +kernel) (pa_cons (pv 8) pa_nil)) (pe_callB cr_sortedS (by rfl) T.free_sorted (by decide +kernel) (pa_cons (pv 3) pa_nil)) (nomark _)) (pw_or1 (pt_cmpR op_ne (pe_fx F__law_volume (hr.mono (by decide)) rfl (pa_cons (pv 2) (pa_cons (pv 6) pa_nil))) (pv 5) (nomark _)))))) (pss_one (ps_ret pe_bl)) pss_nil) (pss_cons (ps_if (PW.pt (pw_or (pt_cmpR op_ne (pe_mx0 T.cls_Sides F_Sides_volume (hr.mono (by decide)) (pe_fx F_sides_of (hr.mono (by decide)) rfl (pa_cons (pv 1) (pa_cons (pv 6) pa_nil)))) (pv 5) (nomark _)) (pw_or1 (pt_not (pt_val (pe_fx F__law_shown (hr.mono (by decide)) rfl (pa_cons (pv 2) (pa_cons (pv 3) (pa_cons (pv 7) pa_nil))))))))) (pss_one (ps_ret pe_bl)) pss_nil) (pss_cons (ps_if (pt_cmpR (op_neD hr.units) (pe_lc (own := [("_law_some", 10)]) (g := gName 10)  (by rfl) sc__law_right.nd (pi_list (pe_dget (hu_of hr) (pv 7) (pe_callTy call_tupS (by rfl) T.free_tuple (by decide +kernel) (pa_cons (pv 3) pa_nil)) (fun _ _ => rfl))) (blkOk_by (own := [("_law_some", 10)]) (N := ["_law_purse_here", "_law_kept", "_law_book_here", "_law_names_here", "_law_found", "_law_volume_here", "_law_paper", "_law_lists", "_law_told", "_law_turn", "_law_some"]) (sc := defScope s__law_right) (by decide +kernel)) (fun _ _ _ _ _ => (pg_name (i := 10) sc__law_right.nd rfl (Or.inl rfl))) (fun _ _ _ _ _ => pts_one (pt_cmpR op_lt (pe_fx F__law_volume (hr.mono (by decide)) rfl (pa_cons (pv 2) (pa_cons (pv 10) pa_nil))) (pv 5) (nomark _))) (fun _ _ _ _ _ => (pv 10))) (pe_lst pa_nil) (nomark _)) (pss_one (ps_ret pe_bl)) pss_nil) (pss_cons (ps_for PassesOwn.never rfl (pi_range1 rfl T.free_range (pa_cons pe_int pa_nil)) (pg_name (i := 9) sc__law_right.nd rfl (Or.inl rfl)) (pss_one (ps_if (pt_cmpR op_lt (pe_fx F__law_volume (hr.mono (by decide)) rfl (pa_cons (pv 2) (pa_cons (pe_fx F__law_laying (hr.mono (by decide)) rfl (pa_cons (pv 0) (pa_cons (pe_fx F__law_picked (hr.mono (by decide)) rfl (pa_cons (pv 0) (pa_cons (pv 3) (pa_cons (pe_callB call_len_seq (by rfl) T.free_len (by decide +kernel) (pa_cons (pv 3) pa_nil)) pa_nil)))) pa_nil))) pa_nil))) (pv 5) (nomark _)) (pss_one (ps_ret pe_bl)) pss_nil))) (pss_one (ps_ret pe_bl))))))))), ?_⟩
    have okall : ∀ n ∈ ns, okT (S n) := fun n hn => by
      obtain ⟨pr, hpr, e⟩ := List.mem_map.mp (hg.held n hn)
      have := hS pr hpr
      rw [← e, this.1]
      exact this.2.2.1
    have okL := upTo_ok (S := S) hg.nd hg.few (choicesOf ns).length
    rw [upTo_all] at okL
    have okq := (getL_ok okL ns).1 q0 (List.mem_of_getElem? ht.fst.1)
    have fits : okT q0.three := by
      rw [okq.2]
      exact span_fits okq.1 okall hg.fit
    obtain ⟨v1, v2⟩ := vol_fits fits
    have lq := okq.1.length_eq
    have l4 := hg.few
    have dq := Lay.depth_lt q0.paper
    have hbH := hb.mono off_le
    have htH := ht.mono off_le
    refine ⟨_, rfl, _, _, .type "tuple", .type "tuple", true, rfl, .ty _, ty_tup (SqT.of htH.tup), kit_ty (by decide +kernel), _, rfl, iteF ?_⟩
    refine ⟨_, rfl, t, _, rfl, .inr (SqT.of htH.tup), rfl, _, rfl, iteF ?_⟩
    refine ⟨_, rfl, t, _, _, _, rfl, rfl, SqT.of htH.tup, rfl, _, _, rfl, rfl, ⟨by decide, by decide, by decide⟩, _, _, _, rfl, ?_⟩
    rw [decide_eq_true v1, decide_eq_true (show q0.three.vol ≤ (10 : Int) ^ (15 : Int).toNat from v2)]
    refine ⟨_, rfl, iteF ?_⟩
    refine ⟨_, rfl, t, _, rfl, SqT.of htH.tup, rfl, _, _, rfl, _, _, rfl, _, _, rfl, rfl, ?_⟩
    have qin : ∀ n ∈ q0.paper.names, n ∈ ks := fun n hn => (hin n (okq.1.subset hn)).1
    have fitL : okT (q0.paper.span S) := by rw [← okq.2]; exact fits
    refine ⟨_, rfl, _, rfl, b, S, ks, vp, q0.paper, rfl, hbH, htH.lay, by omega, by omega, qin, fun r H1 s1 nr er => ?_⟩
    have seqm : ∀ {A : Hp} {xs : List V}, Same H A → SqL K H p xs → SqL K A p xs := fun s h => Same.seq s h
    refine ⟨_, rfl, rfl, _, rfl, iteF ?_⟩
    refine ⟨_, rfl, r, q0.paper.names, rfl, SqL.of er, by omega, fun ys1 p1 perm1 so1 hp1 => ?_⟩
    have s2 := same_upd (u := .lst (ys1.map V.str)) hp1
    have ep1 : (upd H1 p1 (.lst (ys1.map V.str))) p1 = some (.lst (ys1.map V.str)) := upd_same
    generalize upd H1 p1 (.lst (ys1.map V.str)) = H2 at s2 ep1 ⊢
    refine ⟨_, rfl, p, ns, rfl, seqm (s1.trans s2) hp, by omega, fun ys2 p2 perm2 so2 hp2 => ?_⟩
    have s3 := same_upd (u := .lst (ys2.map V.str)) hp2
    have e12 : ys1 = ys2 := sorted_uniq so1 so2 (perm1.trans (okq.1.trans perm2.symm))
    have nm2 : ∀ x ∈ ys2, isName x := fun x hx => (hin x (perm2.subset hx)).2
    refine ⟨strD ys1, strD ys2, .lst (SqL.of (s3 _ _ ep1)) (dp_strs _), .lst (SqL.of upd_same) (dp_strs _), strD_shaped (by rw [e12]; exact nm2), strD_shaped nm2, _, rfl, iteE false (strD_ne e12 nm2) ?_⟩
    generalize upd H2 p2 (.lst (ys2.map V.str)) = H3 at s3
    have s13 := s1.trans (s2.trans s3)
    refine ⟨_, rfl, _, rfl, b, S, ks, vp, q0.paper, rfl, hbH.mono s13, htH.lay.mono s13, by omega, qin, fitL, fun H4 s4 => ?_⟩
    rw [← okq.2]
    refine ⟨_, rfl, rfl, _, rfl, iteE false (by simp) ?_⟩
    have s14 := s13.trans s4
    have qps : ∀ n ∈ q0.paper.names, n ∈ pNames ps := fun n hn => hg.held n (okq.1.subset hn)
    refine ⟨_, rfl, _, rfl, a, dx, l, xs, ps, vp, q0.paper, S, rfl, (hh.mono off_le).mono s14, hS, htH.lay.mono s14, ?_, fun r5 H5 s5 h5 => ?_⟩
    · exact ⟨by omega, okq.1.nodup_iff.mpr hg.nd, qps, fitL⟩
    · obtain ⟨sa, sdx, sq, rfl, hsa, _⟩ := id h5
      refine ⟨sa, sdx, _, rfl, hsa, rfl, _, _, rfl, h5, fitL, ?_⟩
      rw [← okq.2]
      refine ⟨_, rfl, rfl, _, rfl, iteE false (by simp) ?_⟩
      have s15 := s14.trans s5
      refine ⟨_, rfl, _, rfl, _, rfl, b, S, ks, p, ns, d, kvs, H0, rfl, hbH.mono s15, seqm s15 hp, s15 _ _ htH.dct, htH.ents.mono s15, hg.nd, hg.few, hin, fun H6 s6 => ?_⟩
      refine ⟨_, rfl, iteF ?_⟩
      have s16 := s15.trans s6
      refine ⟨_, rfl, _, rfl, p, _, rfl, .inl (seqm s16 hp), fun u H7 s7 ⟨bb, eu, eb⟩ => ?_⟩
      subst eu
      have s17 := s16.trans s7
      have keys : (laidLists S ns).map (·.1) = choicesOf ns := full_keys S ns
      have n0 : ns ≠ [] := List.length_pos_iff.mp hg.some
      obtain ⟨ll, us, k1, _, k3, k4⟩ := PaAt.get htH.ents (c := ns) (by rw [keys]; exact choices_mem.mpr ⟨n0, List.Sublist.refl _⟩)
      have lus := k4.length
      have sml := (getL_ok okL ns).2
      have mo : mostOf ns.length ≤ 3000000 := by unfold mostOf; split <;> omega
      refine ⟨d, _, rfl, dget_of (s17 _ _ htH.dct) eb k1, ll, rfl, ⟨_, SqL.of (s17 _ _ k3)⟩, fun D hD => lc_filt (xs := us) walk_list (by show 10 < 11; decide) (fun A s => SqL.of (s _ _ (s17 _ _ k3))) hD (by rw [lus]; exact Nat.le_trans (Nat.le_trans sml mo) (by decide)) (fun _ => false) (fun j x A5 ex sA Kb kb => ?_) fun A5 sA eA => ?_⟩
      · obtain ⟨qj, eqj, hqj⟩ := Paired.at k4 ex
        have okj := (getL_ok okL ns).1 qj (List.mem_of_getElem? eqj)
        have lj := okj.1.length_eq
        have dj := Lay.depth_lt qj.paper
        have fj : okT (qj.paper.span S) := span_fits okj.1 okall hg.fit
        have sHA := s17.trans sA
        refine ⟨_, rfl, _, rfl, b, S, ks, x, qj.paper, rfl, hbH.mono sHA, hqj.mono sHA, by omega, fun n hn => (hin n (okj.1.subset hn)).1, fj, fun A6 s8 => ?_⟩
        have mn := (ht.fst.2 j qj eqj).1
        rw [okj.2] at mn
        refine ⟨_, rfl, _, _, rfl, rfl, _, rfl, ?_⟩
        rw [decide_eq_false (show ¬ (qj.paper.span S).vol < q0.three.vol by omega)]
        exact kb A6 s8
      · rw [pick_none] at eA
        refine ⟨Nat.zero_le _, fun l0 hl0 => ?_⟩
        have s8 := same_upd (u := .lst []) hl0
        refine ⟨.list [], .list [], .lst (SqL.of (s8 _ _ eA)) .nil, .lst (SqL.of upd_same) .nil, by decide, by decide, _, rfl, iteF ?_⟩
        generalize upd A5 l0 (.lst []) = A6 at s8
        have s18 := s17.trans (sA.trans s8)
        refine ⟨6, rfl, by decide, by decide, for_it (walk_rng (n := 6)) (fun m σ C => Sm [q] H C ∧ PurseAt C q (B + 60 * m) ∧ ∃ u9 u10, σ = [some (.ref q), some (.ref a), some b, some (.ref p), some (.ref t), some (.int q0.three.vol), some vp, some (.ref d), some (.ref r), u9, u10]) ⟨Same_sm s18, hq.mono s18, _, _, rfl⟩ (fun _ _ _ _ _ => trivial) (fun m x σ C C2 hm h y => ?_) fun σ C h => ?_⟩
        · obtain ⟨sC, hqC, u9, u10, rfl⟩ := h
          obtain ⟨rfl, ex⟩ := y
          obtain ⟨hm6, _⟩ := rng_at ex
          have lmap : (ns.map V.str).length = ns.length := List.length_map ..
          refine ⟨_, rfl, _, rfl, _, rfl, _, rfl, _, rfl, p, _, rfl, .inl (seq_sm npq hp sC), q, _, p, ns, (ns.map V.str).length, rfl, hqC, by omega, npq, seq_sm npq hp sC, by omega, by omega, by omega, fun r6 E1 ks2 rest t1 hq6 nr6 er6 hperm hlen => ?_⟩
          have hrest : rest = [] := by
            have e := hperm.length_eq
            rw [List.length_append] at e
            exact List.length_eq_zero_iff.mp (by omega)
          rw [hrest, List.append_nil] at hperm
          have nrq : r6 ≠ q := hqC.has nr6
          refine ⟨q, _, r6, ks2, rfl, hq6, by omega, nrq, SqL.of er6, by omega, by omega, fun v E2 L t2 hq7 hL hLp => ?_⟩
          have sE : Sm [q] H E2 := sC.trans (t1.trans t2)
          have pL := hLp.trans hperm
          have lL := pL.length_eq
          have dL := Lay.depth_lt L
          have fL : okT (L.span S) := span_fits pL okall hg.fit
          refine ⟨b, S, ks, v, L, rfl, (hb.mono sE.off).mono off_le, hL, by omega, fun n hn => (hin n (pL.subset hn)).1, fL, fun E3 t3 => ?_⟩
          have mn := least_all hg okall ht.fst pL
          refine ⟨_, rfl, _, _, rfl, rfl, _, rfl, iteE false (decide_eq_false (show ¬ (L.span S).vol < q0.three.vol by omega)) ?_⟩
          exact ⟨sE.trans (Same_sm t3), (hq7.mono t3).up (by omega), _, _, rfl⟩
        · obtain ⟨sC, hqC, u9, u10, rfl⟩ := h
          exact k C sC (hqC.up (by rw [rng_len]; omega))
end
end Bx
set_option Elab.async false
set_option linter.all false
set_option maxRecDepth 100000
set_option maxHeartbeats 1000000
/-! BxY11: alike. -/
namespace Bx
open PySem PySem.Spec PyProof.Rows L2
def lawFresh : List Str := ["wall", "ab", "abc", "b", "rest", "long", "x", "aa", "ba", "in", "of", "top"]
theorem fresh_name : ∀ x ∈ lawFresh, isName x := by unfold isName; decide +kernel
theorem fresh_nodup : lawFresh.Nodup := by decide +kernel
/-- what a name is called -/
def callOf (hs fs : List Str) (n : Str) : Str := fs.reverse.getD (hs.idxOf n) Str.empty
theorem callOf_at {hs fs : List Str} (hl : fs.length = hs.length) (nd : hs.Nodup) {i : Nat} (hi : i < hs.length) : fs[hs.length - 1 - i]? = some (callOf hs fs hs[i]) := by
  unfold callOf
  rw [nd.idxOf_getElem i hi, List.getD_eq_getElem?_getD, List.getElem?_reverse (by omega)]
  rw [show fs.length - 1 - i = hs.length - 1 - i by omega, List.getElem?_eq_getElem (by omega)]
  rfl
theorem callOf_inj {hs fs : List Str} (hl : fs.length = hs.length) (nd : hs.Nodup) (fd : fs.Nodup) {m n : Str} (hm : m ∈ hs) (hn : n ∈ hs) (e : callOf hs fs m = callOf hs fs n) : m = n := by
  obtain ⟨i, hi, rfl⟩ := List.getElem_of_mem hm
  obtain ⟨j, hj, rfl⟩ := List.getElem_of_mem hn
  have e1 := callOf_at hl nd hi
  have e2 := callOf_at hl nd hj
  rw [e, ← e2] at e1
  have hx : hs.length - 1 - i < fs.length := by omega
  have := (List.getElem?_inj hx fd).mp e1
  have : i = j := by omega
  subst this
  rfl
theorem callOf_mem {hs fs : List Str} (hl : fs.length = hs.length) (nd : hs.Nodup) {n : Str} (hn : n ∈ hs) : callOf hs fs n ∈ fs := by
  obtain ⟨i, hi, rfl⟩ := List.getElem_of_mem hn
  exact List.mem_of_getElem? (callOf_at hl nd hi)
def CallEnt (C : Str → Str) (kv : Key × V) (n : Str) : Prop := kv.1 = Sum.inr n ∧ kv.2 = .str (C n)
theorem call_get {C : Str → Str} {n : Str} : ∀ {kvs : List (Key × V)} {ns : List Str}, Paired (CallEnt C) kvs ns → n ∈ ns → valV kvs (Sum.inr n) = some (.str (C n))
  | _, _, .nil, h => by simp at h
  | kv :: kvs, m :: ns, .cons r t, h => by
    by_cases e : m = n
    · subst e
      rw [valV_pos r.1, r.2]
    · rcases List.mem_cons.mp h with z | z
      · exact absurd z.symm e
      · rw [valV_neg fun q => e (by rw [r.1] at q; exact Sum.inr.inj q), call_get t z]
theorem call_new {C : Str → Str} {n : Str} : ∀ {kvs : List (Key × V)} {ns : List Str}, Paired (CallEnt C) kvs ns → n ∉ ns → valV kvs (Sum.inr n) = none
  | _, _, .nil, _ => rfl
  | kv :: kvs, m :: ns, .cons r t, h => by
    rw [valV_neg (fun z => h (List.mem_cons.mpr (.inl ((Sum.inr.inj (r.1.symm.trans z)).symm)))), call_new t fun z => h (List.mem_cons_of_mem _ z)]
section
variable {P : Program} {w : World} {K : PySem.W.Frag} {mg : Str → Option Value} {base : Heap}
def spAlike (K : PySem.W.Frag) : Sp := fun vs H Q _ => ∃ q B h p d hs ns S, vs = [.ref q, .ref h, .ref p, .ref d] ∧ PurseAt H q B ∧ B ≤ 800000 ∧ h ≠ q ∧ p ≠ q ∧ SqL K H h ((hs : List Str).map V.str) ∧ SqL K H p ((ns : List Str).map V.str) ∧ BookAt (off [q] H) (.ref d) S hs ∧ hs.Nodup ∧ hs.length ≤ 12 ∧ (∀ n ∈ ns, n ∈ hs) ∧ ns.length ≤ 12 ∧ (∀ n ∈ hs, isName n ∧ okT (S n)) ∧
  ∀ t a dx l xs ps p' d' S' C ms ks H', Sm [q] H H' → PurseAt H' q (B + 200) → H' t = some (.tup [.ref a, .ref p', .ref d']) → p' ≠ q → H' p' = some (.lst (((ms : List Str).map C).map V.str)) → ms.Perm ns → KpAt K (off [q] H') a dx l xs ps → SaysT S' ps → pNames ps = ks → BookAt (off [q] H') (.ref d') S' ks → ks.Perm (hs.map C) →
    (∀ n ∈ hs, isName (C n)) → (∀ m ∈ hs, ∀ n ∈ hs, C m = C n → m = n) → (∀ n ∈ hs, ∃ o, S' (C n) = (S n).turn o) → Q (.ref t) H'
theorem sc__law_alike : FnScope ["_law_purse_here", "_law_held_here", "_law_names_here", "_law_book_here", "_law_others", "_law_called", "_law_fresh", "_law_name", "_law_order", "_law_number"] ["_law_purse_here", "_law_held_here", "_law_names_here", "_law_book_here"] (defScope s__law_alike) := ⟨rfl, rfl, rfl, by decide +kernel, rfl, by decide +kernel, by decide +kernel⟩
theorem F__law_alike (T : Env w K mg) : Fx P w K mg base "_law_alike" 6 ["_law_purse_here", "_law_held_here", "_law_names_here", "_law_book_here"] (spAlike K) := by
  obtain ⟨fd, F⟩ := T.d__law_alike
  have F__law_take := F__law_take (P := P) (base := base) T
  have F__law_heap := F__law_heap (P := P) (base := base) T
  have F__law_picked := F__law_picked (P := P) (base := base) T
  have F__law_orders := F__law_orders (P := P) (base := base) T
  refine ⟨_, fd, T.glo__law_alike, F.kp, F.bindsN fun _ _ _ _ _ _ us hl => match us, hl with | [_, _, _, _], _ => rfl, ?_⟩
  refine F.ok sc__law_alike (fun vs H Q E h => ?_) (fun cdv A outer s H vs Q E hr h => ?_)
  · obtain ⟨q, B, h, p, d, hs, ns, S, rfl, _⟩ := h
    rfl
  · obtain ⟨q, B, h, p, d, hs, ns, S, rfl, hq, hB, nhq, npq, hh, hp, hb, hnd, h12, hin, hn12, hok, k⟩ := h
    refine ⟨_, PSs.nox (pss_cons (ps_set (i := 4) sc__law_alike.nd rfl (Or.inl rfl) pe_dnewK) (pss_cons (ps_set (i := 5) sc__law_alike.nd rfl (Or.inr rfl) pe_dnewK) (pss_cons (ps_set (i := 6) sc__law_alike.nd rfl (Or.inl rfl) (pe_lst (pa_cons pe_str (pa_cons pe_str (pa_cons pe_str (pa_cons pe_str (pa_cons pe_str (pa_cons pe_str (pa_cons pe_str (pa_cons pe_str (pa_cons pe_str (pa_cons pe_str (pa_cons pe_str (pa_cons pe_str pa_nil)))))))))))))) (pss_cons (ps_set (i := 6) sc__law_alike.nd rfl (Or.inl rfl) (pe_fx F__law_picked (hr.mono (by decide)) rfl (pa_cons (pv 0) (pa_cons (pv 6) (pa_cons (pe_callB call_len_seq (by rfl) T.free_len (by decide +kernel) (pa_cons (pv 1) pa_nil)) pa_nil))))) (pss_cons (ps_for PassesOwn.never rfl (pi_list (pv 1)) (pg_name (i := 7) sc__law_alike.nd rfl (Or.inr rfl)) (pss_one (ps_dput (hu_of hr) (pv 5) (pv 7) (pe_bm0 PySem.F.plainAttrs_list PySem.F.slot_list_pop PySem.F.type_list_pop mt_pop (pv 6)) rfl))) (pss_cons (ps_for PassesOwn.never rfl (pi_list (pe_fx F__law_picked (hr.mono (by decide)) rfl (pa_cons (pv 0) (pa_cons (pv 1) (pa_cons (pe_callB call_len_seq (by rfl) T.free_len (by decide +kernel) (pa_cons (pv 1) pa_nil)) pa_nil))))) (pg_name (i := 7) sc__law_alike.nd rfl (Or.inr rfl)) (pss_cons (ps_set (i := 8) sc__law_alike.nd rfl (Or.inl rfl) (pe_ix ix_list (pe_fx0 F__law_orders (hr.mono (by decide)) rfl) (pe_fx F__law_take (hr.mono (by decide)) rfl (pa_cons (pv 0) (pa_cons pe_int pa_nil))) (fun _ _ => rfl))) (pss_one (ps_dput (hu_of hr) (pv 4) (pe_dget (hu_of hr) (pv 5) (pv 7) (fun _ _ => rfl)) (pe_lc (own := [("_law_number", 9)]) (g := gName 9) (tt := tYes) (by rfl) sc__law_alike.nd (pi_tup (pv 8)) (blkOk_by (own := [("_law_number", 9)]) (N := ["_law_purse_here", "_law_held_here", "_law_names_here", "_law_book_here", "_law_others", "_law_called", "_law_fresh", "_law_name", "_law_order", "_law_number"]) (sc := defScope s__law_alike) (by decide +kernel)) (fun _ _ _ _ _ => (pg_name (i := 9) sc__law_alike.nd rfl (Or.inl rfl))) (fun _ _ _ _ _ => pts_nil) (fun _ _ _ _ _ => (pe_ix (ix_listK K) (pe_dget (hu_of hr) (pv 3) (pv 7) (fun _ _ => rfl)) (pv 9) (fun _ _ => rfl)))) rfl)))) (pss_one (ps_ret (pe_tup (pa_cons (pe_fx F__law_heap (hr.mono (by decide)) rfl (pa_cons (pv 0) (pa_cons (pv 4) pa_nil))) (pa_cons (pe_lc (own := [("_law_name", 7)]) (g := gName 7) (tt := tYes) (by rfl) sc__law_alike.nd (pi_list (pe_fx F__law_picked (hr.mono (by decide)) rfl (pa_cons (pv 0) (pa_cons (pv 2) (pa_cons (pe_callB call_len_seq (by rfl) T.free_len (by decide +kernel) (pa_cons (pv 2) pa_nil)) pa_nil))))) (blkOk_by (own := [("_law_name", 7)]) (N := ["_law_purse_here", "_law_held_here", "_law_names_here", "_law_book_here", "_law_others", "_law_called", "_law_fresh", "_law_name", "_law_order", "_law_number"]) (sc := defScope s__law_alike) (by decide +kernel)) (fun _ _ _ _ _ => (pg_name (i := 7) sc__law_alike.nd rfl (Or.inl rfl))) (fun _ _ _ _ _ => pts_nil) (fun _ _ _ _ _ => (pe_dget (hu_of hr) (pv 5) (pv 7) (fun _ _ => rfl)))) (pa_cons (pv 4) pa_nil)))))))))))), ?_⟩
    obtain ⟨d0, kvs, ⟨⟩, hd, hkvs⟩ := hb
    have ndq : d ≠ q := fun z => by rw [z, off_in (List.mem_singleton.mpr rfl)] at hd; cases hd
    have nm : ∀ {b : Addr}, b ≠ q → b ∉ [q] := fun h m => h (List.mem_singleton.mp m)
    intro o ho
    have s1 := same_upd (u := .dK []) ho
    have eo : (upd H o (.dK [])) o = some (.dK []) := upd_same
    intro c hc
    have s2 := same_upd (u := .dK []) hc
    have ec : (upd (upd H o (.dK [])) c (.dK [])) c = some (.dK []) := upd_same
    change tSeq _ _ _ _ (upd (upd H o (.dK [])) c (.dK []))
    have eo2 := s2 _ _ eo
    have noq : o ≠ q := hq.has ho
    have ncq : c ≠ q := (hq.mono s1).has hc
    have noc : o ≠ c := fun z => by rw [← z, eo] at hc; cases hc
    have s12 := s1.trans s2
    generalize upd (upd H o (.dK [])) c (.dK []) = H1 at s12 ec eo2 ⊢
    have hoH : H o = none := ho
    have hcH : H c = none := by
      cases z : H c with
      | none => rfl
      | some u => rw [s1 _ _ z] at hc; cases hc
    have hq1 := hq.mono s12
    have lhs : (hs.map V.str).length = hs.length := List.length_map ..
    refine ⟨(by show 12 ≤ sizeLine; decide), fun l hl => ?_⟩
    have s3 := same_upd (u := .lst (lawFresh.map V.str)) hl
    have el : (upd H1 l (.lst (lawFresh.map V.str))) l = some (.lst (lawFresh.map V.str)) := upd_same
    show tSeq _ _ _ _ (upd H1 l (.lst (lawFresh.map V.str)))
    have nlq : l ≠ q := hq1.has hl
    have hq2 := hq1.mono s3
    have eo3 := s3 _ _ eo2
    have ec3 := s3 _ _ ec
    have s13 := s12.trans s3
    generalize upd H1 l (.lst (lawFresh.map V.str)) = H2 at el hq2 eo3 ec3 s13 ⊢
    refine ⟨_, rfl, _, rfl, _, rfl, h, _, rfl, .inl (seq_sm nhq hh (Same_sm s13)), q, B, l, lawFresh, (hs.map V.str).length, rfl, hq2, by omega, nlq, SqL.of el, by rw [lhs]; exact h12, by omega, by decide, fun fl H3 fs rest s4 hq3 nfl efl hperm hlen => ?_⟩
    have fsl : fs.length = hs.length := by rw [hlen, lhs]
    have fsub : fs.Nodup := by
      have := hperm.nodup_iff.mpr fresh_nodup
      exact (List.nodup_append.mp this).1
    have fname : ∀ x ∈ fs, isName x := fun x hx => fresh_name x (hperm.subset (List.mem_append_left _ hx))
    have flq : fl ≠ q := hq2.has nfl
    have flo : fl ≠ o := fun z => by rw [z, eo3] at nfl; cases nfl
    have flc : fl ≠ c := fun z => by rw [z, ec3] at nfl; cases nfl
    have sH3 : Sm [q] H H3 := (Same_sm s13).trans s4
    have nflH : H fl = none := by
      cases z : H fl with
      | none => rfl
      | some u => rw [s13 _ _ z] at nfl; cases nfl
    rw [lhs] at hq3
    have eo4 := s4 o _ (nm noq) eo3
    have ec4 := s4 c _ (nm ncq) ec3
    let C := callOf hs fs
    refine ⟨_, rfl, h, rfl, ⟨_, seq_sm nhq hh sH3⟩, for_it (walk_list (xs := hs.map V.str)) (fun i σ E => ∃ ks u7, σ = [some (.ref q), some (.ref h), some (.ref p), some (.ref d), some (.ref o), some (.ref c), some (.ref fl), u7, none, none] ∧ Sm [q] H E ∧ PurseAt E q (B + hs.length) ∧ E o = some (.dK []) ∧ E c = some (.dK ks) ∧ Paired (CallEnt C) ks (hs.take i) ∧ E fl = some (.lst ((fs.take (hs.length - i)).map V.str)))
      ⟨[], none, rfl, sH3, hq3, eo4, ec4, by rw [List.take_zero]; exact .nil, by rw [Nat.sub_zero, ← fsl, List.take_length]; exact efl⟩ (fun i σ E _ hE => ?_) (fun i x σ E E' hi hE y => ?_) fun σ E hE => ?_⟩
    · obtain ⟨_, _, _, sE, _⟩ := hE
      exact seq_sm nhq hh sE
    · obtain ⟨ks, u7, rfl, sE, hqE, eoE, ecE, hkE, eflE⟩ := hE
      obtain ⟨rfl, ex⟩ := y
      rw [lhs] at hi
      have ex2 : x = .str hs[i] := by
        rw [List.getElem?_map, List.getElem?_eq_getElem hi] at ex
        exact (Option.some.inj ex).symm
      subst ex2
      have eni : hs[i]? = some hs[i] := List.getElem?_eq_getElem hi
      have cat : fs[hs.length - 1 - i]? = some (C hs[i]) := callOf_at fsl hnd hi
      have lpop : ((fs.take (hs.length - i)).map V.str).length = hs.length - i := by
        rw [List.length_map, List.length_take]
        omega
      refine ⟨_, rfl, .inl ⟨rfl, _, SqL.of eflE⟩, fl, _, .str (C hs[i]), rfl, rfl, eflE, ?_, ?_⟩
      · rw [lpop, List.getElem?_map, List.getElem?_take_of_lt (by omega), show hs.length - i - 1 = hs.length - 1 - i by omega, cat]
        rfl
      · have new : hs[i] ∉ hs.take i := take_not hnd eni
        have lk := hkE.length
        refine ⟨_, rfl, _, rfl, c, _, rfl, DPut.k (k := Sum.inr hs[i]) (by rw [upd_ne flc.symm]; exact ecE) (by rw [lk, List.length_take]; exact Nat.lt_of_le_of_lt (show _ ≤ 12 by omega) (by decide)), ?_⟩
        rw [putK_new _ (call_new hkE new)]
        refine ⟨_, _, rfl, sm_fresh (sm_fresh sE nflH) hcH, (hqE.put flq).put ncq, ?_, upd_same, ?_, ?_⟩
        · rw [upd_ne noc, upd_ne flo.symm]
          exact eoE
        · rw [List.take_add_one, eni]
          exact paired_app hkE (.cons ⟨rfl, rfl⟩ .nil)
        · rw [upd_ne flc, upd_same, ← List.map_dropLast, List.dropLast_eq_take, List.length_take, List.take_take]
          congr 3
          congr 1
          omega
    · obtain ⟨ks, u7, rfl, sE, hqE, eoE, ecE, hkE, eflE⟩ := hE
      rw [lhs, List.take_length] at hkE
      refine ⟨_, rfl, _, rfl, _, rfl, h, _, rfl, .inl (seq_sm nhq hh sE), q, _, h, hs, (hs.map V.str).length, rfl, hqE, by omega, nhq, seq_sm nhq hh sE, by omega, by omega, by omega, fun r G gs rest2 s5 hq5 nr er hperm2 hlen2 => ?_⟩
      have gl : gs.length = hs.length := by rw [hlen2, lhs]
      have gperm : gs.Perm hs := by
        have hrest : rest2 = [] := by
          have e := hperm2.length_eq
          rw [List.length_append] at e
          exact List.length_eq_zero_iff.mp (by omega)
        rw [hrest, List.append_nil] at hperm2
        exact hperm2
      have gnd : gs.Nodup := gperm.nodup_iff.mpr hnd
      have sHG := sE.trans s5
      have nrq : r ≠ q := hqE.has nr
      have nro : r ≠ o := fun z => by rw [z, eoE] at nr; cases nr
      have eoG := s5 o _ (nm noq) eoE
      have ecG := s5 c _ (nm ncq) ecE
      have Cinj : ∀ m ∈ hs, ∀ n ∈ hs, C m = C n → m = n := fun m hm n hn e => callOf_inj fsl hnd fsub hm hn e
      have Cname : ∀ n ∈ hs, isName (C n) := fun n hn => fname _ (callOf_mem fsl hnd hn)
      have bookG : ∀ {A : Hp} {n : Str}, Sm [q] H A → n ∈ hs → ∃ r0, DGet A d (.str n) (some (.ref r0)) ∧ A r0 = some (.lst (S n).v) := fun {A n} s hn => by
        obtain ⟨v2, ev, r0, rfl, hr0⟩ := book_get hkvs hn
        have hdA := (s.off.trans off_le) _ _ hd
        have := DGet.k (k := Sum.inr n) hdA
        rw [ev] at this
        exact ⟨r0, this, (s.off.trans off_le) _ _ hr0⟩
      have callG : ∀ {A : Hp} {n : Str}, A c = some (.dK ks) → n ∈ hs → DGet A c (.str n) (some (.str (C n))) := fun {A n} e hn => by
        have := DGet.k (k := Sum.inr n) e
        rw [call_get hkE hn] at this
        exact this
      refine ⟨r, rfl, ⟨_, SqL.of er⟩, for_it (walk_list (xs := gs.map V.str)) (fun j σ A => ∃ ko S' u7 u8, σ = [some (.ref q), some (.ref h), some (.ref p), some (.ref d), some (.ref o), some (.ref c), some (.ref fl), u7, u8, none] ∧ Sm [q] H A ∧ Sm [q, o] G A ∧ PurseAt A q (B + 24 + j) ∧ A o = some (.dK ko) ∧ Paired (BookEnt (off [q, o] A) S') ko ((gs.take j).map C) ∧ ∀ g ∈ gs.take j, ∃ oo, S' (C g) = (S g).turn oo)
        ⟨[], fun _ => ⟨0, 0, 0⟩, _, none, rfl, sHG, Sm.refl, hq5.up (by omega), eoG, by rw [List.take_zero]; exact .nil, fun g hg => by simp at hg⟩ (fun j σ A _ hA => ?_) (fun j x σ A A' hj hA y => ?_) fun σ A hA => ?_⟩
      · obtain ⟨_, _, _, _, _, _, sA, _⟩ := hA
        exact SqL.of (sA r _ (fun m => by rcases List.mem_cons.mp m with m | m; exact nrq m; exact nro (List.mem_singleton.mp m)) er)
      · obtain ⟨ko, S', u7', u8, rfl, sA, sGA, hqA, eoA, hkA, hSA⟩ := hA
        obtain ⟨rfl, ex⟩ := y
        rw [List.length_map] at hj
        have ex2 : x = .str gs[j] := by
          rw [List.getElem?_map, List.getElem?_eq_getElem hj] at ex
          exact (Option.some.inj ex).symm
        subst ex2
        have eng : gs[j]? = some gs[j] := List.getElem?_eq_getElem hj
        have gin : gs[j] ∈ hs := gperm.subset (List.getElem_mem hj)
        refine ⟨rfl, fun ro A3 ts t3 n3 e3 l3 ho3 => ?_⟩
        have hq6 := hqA.mono t3
        have nroq : ro ≠ q := hqA.has n3
        refine ⟨_, rfl, q, _, 6, rfl, hq6, by omega, by decide, by decide, fun A4 oi t4 hq7 o0 o1 => ?_⟩
        obtain ⟨oi, rfl⟩ := Int.eq_ofNat_of_zero_le o0
        have ho6 : oi < 6 := by omega
        obtain ⟨v, evo, hvo⟩ := ho3 ⟨oi, ho6⟩
        obtain ⟨po, rfl, hpo⟩ := hvo
        have hpo4 : SqT K A4 po (oV ⟨oi, ho6⟩) := Same_tup t4.offr (sqt_off hq6.dull hpo)
        refine ⟨ro, _, oi, .ref po, rfl, rfl, SqL.of (t4 _ _ (nm nroq) e3), atI_nat evo, ?_⟩
        have t34 : Sm [q] A' A4 := (Same_sm t3).trans t4
        have sA4 := sA.trans t34
        have eo4' := t34 o _ (nm noq) eoA
        have sG4 : Sm [q, o] G A4 := sGA.trans (t34.wid fun b m => by rw [List.mem_singleton.mp m]; simp)
        obtain ⟨r0, gd, hr0⟩ := bookG sA4 gin
        refine ⟨_, rfl, po, rfl, ⟨_, hpo4⟩, fun D hD => lc_src (xs := oV ⟨oi, ho6⟩) walk_tup (fun A s => Same_tup s hpo4) hD (by show 3 ≤ sizeLine; decide) (fun jj y _ => ∀ k : Fin 3, k.val = jj → y = .int (((S gs[j]).turn ⟨oi, ho6⟩).get k)) (fun _ _ _ _ _ z => z) (fun jj x A5 ex sA5 _ Kt kt => ?_) fun A5 acc sA5 eD la hR => ?_⟩
        · have hj3 : jj < 3 := (List.getElem?_eq_some_iff.mp ex).1
          obtain ⟨k1, rfl, hx⟩ : ∃ k1 : Fin 3, k1.val = jj ∧ x = .int ((oAt ⟨oi, ho6⟩ k1).val : Int) := by
            match jj, hj3, ex with
            | 0, _, ex => exact ⟨0, rfl, (Option.some.inj ex).symm⟩
            | 1, _, ex => exact ⟨1, rfl, (Option.some.inj ex).symm⟩
            | 2, _, ex => exact ⟨2, rfl, (Option.some.inj ex).symm⟩
          subst hx
          obtain ⟨r1, gd1, hr1⟩ := bookG (sA4.trans (Same_sm sA5)) gin
          exact ⟨_, rfl, _, rfl, d, _, rfl, gd1, _, rfl, r1, _, _, _, rfl, rfl, SqL.of hr1, at3 _ _, kt _ _ (Same.refl _) fun k e => by rw [get_turn, Fin.ext e]⟩
        · obtain ⟨w0, w1, w2, rfl⟩ := len3 (show acc.length = 3 from la)
          have g0 := hR 0 _ rfl 0 rfl
          have g1 := hR 1 _ rfl 1 rfl
          have g2 := hR 2 _ rfl 2 rfl
          subst g0 g1 g2
          have eD2 : A5 D = some (.lst (T3.v ((S gs[j]).turn ⟨oi, ho6⟩))) := eD
          have eo5 := sA5 _ _ eo4'
          have nDo : D ≠ o := fun z => by rw [z, eo4'] at hD; cases hD
          have nDq : D ≠ q := hq7.has hD
          have ec5 : A5 c = some (.dK ks) := sA5 _ _ (sG4 c _ (fun m => by rcases List.mem_cons.mp m with m | m; exact ncq m; exact noc (List.mem_singleton.mp m).symm) ecG)
          have lk := hkA.length
          have new : C gs[j] ∉ (gs.take j).map C := fun z => by
            obtain ⟨g, hg, e⟩ := List.mem_map.mp z
            have e2 := Cinj g (gperm.subset (List.mem_of_mem_take hg)) _ gin e
            rw [e2] at hg
            exact take_not gnd eng hg
          refine ⟨_, rfl, _, rfl, _, rfl, c, _, rfl, callG ec5 gin, o, _, rfl, DPut.k (k := Sum.inr (C gs[j])) eo5 (by rw [lk, List.length_map, List.length_take]; exact Nat.lt_of_le_of_lt (show _ ≤ 12 by omega) (by decide)), ?_⟩
          rw [putK_new _ (book_new hkA new)]
          have sAA5 : Same (off [q, o] A') (off [q, o] A5) := Sm.off ((t34.trans (Same_sm sA5)).wid fun b m => by rw [List.mem_singleton.mp m]; simp)
          refine ⟨_, putS S' (C gs[j]) ((S gs[j]).turn ⟨oi, ho6⟩), _, _, rfl, sm_fresh (sA4.trans (Same_sm sA5)) hoH, fun b u m z => ?_, ((hq7.mono sA5).put noq).up (by omega), upd_same, ?_, ?_⟩
          · rw [upd_ne fun e => m (by rw [e]; simp)]
            exact sA5 _ _ (sG4 _ _ m z)
          · rw [off_upd (by simp), List.take_add_one, eng, List.map_append]
            refine paired_app ?_ (.cons ⟨rfl, D, rfl, ?_⟩ .nil)
            · refine book_same (ents_mono sAA5 hkA) fun n hn => ?_
              unfold putS
              rw [if_neg fun e => new (by rw [← e]; exact hn)]
            · rw [off_out (fun m => by rcases List.mem_cons.mp m with m | m; exact nDq m; exact nDo (List.mem_singleton.mp m)), eD2]
              unfold putS
              rw [if_pos rfl]
          · intro g hg
            rw [List.take_add_one, eng] at hg
            unfold putS
            by_cases e : C g = C gs[j]
            · rw [if_pos e]
              have gh : g ∈ hs := by
                rcases List.mem_append.mp hg with z | z
                · exact gperm.subset (List.mem_of_mem_take z)
                · rw [List.mem_singleton.mp z]
                  exact gin
              rw [Cinj g gh _ gin e]
              exact ⟨_, rfl⟩
            · rw [if_neg e]
              rcases List.mem_append.mp hg with z | z
              · exact hSA g z
              · exact absurd (by rw [List.mem_singleton.mp z]) e
      · obtain ⟨ko, S', u7', u8, rfl, sA, sGA, hqA, eoA, hkA, hSA⟩ := hA
        rw [List.length_map] at hqA hkA hSA
        rw [List.take_length] at hkA hSA
        have okS' : ∀ n ∈ gs.map C, isName n ∧ okT (S' n) := fun n hn => by
          obtain ⟨g, hg, rfl⟩ := List.mem_map.mp hn
          obtain ⟨oo, e⟩ := hSA g hg
          rw [e]
          exact ⟨Cname g (gperm.subset hg), (hok g (gperm.subset hg)).2.turn oo⟩
        have bookA : BookAt (off [q] A) (.ref o) S' (gs.map C) := ⟨o, ko, rfl, by
          rw [off_out (nm noq)]
          exact eoA, ents_mono (fun b u z => by
          have mm : b ∉ [q, o] := fun y => by rw [off_in y] at z; cases z
          rw [off_out mm] at z
          rw [off_out fun y => mm (by rw [List.mem_singleton.mp y]; simp)]
          exact z) hkA⟩
        have nodC : (gs.map C).Nodup := by
          rw [List.nodup_iff_pairwise_ne, List.pairwise_map]
          exact List.Pairwise.imp_of_mem (fun {a b} ha hb hne e => hne (Cinj a (gperm.subset ha) b (gperm.subset hb) e)) (List.nodup_iff_pairwise_ne.mp gnd)
        have ecA : A c = some (.dK ks) := sGA c _ (fun m => by rcases List.mem_cons.mp m with m | m; exact ncq m; exact noc (List.mem_singleton.mp m).symm) ecG
        refine ⟨_, rfl, _, rfl, q, _, .ref o, S', gs.map C, rfl, hqA, by omega, bookA, by rw [List.length_map]; omega, nodC, okS', fun a dx l2 xs ps A2 t1 hq8 nl2 hkp hnp hSp => ?_⟩
        have sA2 := sA.trans t1
        have ecA2 := t1 c _ (nm ncq) ecA
        have lns : (ns.map V.str).length = ns.length := List.length_map ..
        refine ⟨_, rfl, _, rfl, _, rfl, p, _, rfl, .inl (seq_sm npq hp sA2), q, _, p, ns, (ns.map V.str).length, rfl, hq8, by omega, npq, seq_sm npq hp sA2, by omega, by omega, by omega, fun r2 A3 ms rest3 t2 hq9 nr2 er2 hperm3 hlen3 => ?_⟩
        have mperm : ms.Perm ns := by
          have hrest : rest3 = [] := by
            have e := hperm3.length_eq
            rw [List.length_append] at e
            exact List.length_eq_zero_iff.mp (by omega)
          rw [hrest, List.append_nil] at hperm3
          exact hperm3
        have ecA3 := t2 c _ (nm ncq) ecA2
        refine ⟨r2, rfl, ⟨_, SqL.of er2⟩, fun D hD => lc_src (walk_list (xs := ms.map V.str)) (fun A s => SqL.of (s _ _ er2)) hD (by rw [List.length_map]; exact Nat.le_trans (show _ ≤ 12 by omega) (by decide)) (fun i y _ => ∀ z, (ms.map C)[i]? = some z → y = .str z) (fun _ _ _ _ _ z => z) (fun i x A4 ex sA4 _ Kt kt => ?_) fun A4 acc sA4 eD la hR => ?_⟩
        · rw [List.getElem?_map] at ex
          obtain ⟨m, em, rfl⟩ := Option.map_eq_some_iff.mp ex
          have mh : m ∈ hs := hin m (mperm.subset (List.mem_of_getElem? em))
          refine ⟨_, rfl, _, rfl, c, _, rfl, callG (sA4 _ _ ecA3) mh, kt _ _ (Same.refl _) fun z hz => ?_⟩
          rw [List.getElem?_map, em] at hz
          rw [← Option.some.inj hz]
        · have e2 := acc_is (xs := ms.map C) V.str (by rw [la, List.length_map, List.length_map]) fun i y hy x hx => hR i y hy x hx
          rw [e2] at eD
          refine ⟨_, rfl, (by show 3 ≤ sizeLine; decide), fun t ht => ?_⟩
          have st := same_upd (u := .tup [.ref a, .ref D, .ref o]) ht
          have nDq : D ≠ q := hq9.has hD
          have t23 : Sm [q] A2 (upd A4 t (.tup [.ref a, .ref D, .ref o])) := t2.trans (Same_sm (sA4.trans st))
          refine k t a dx l2 xs ps D o S' C ms (gs.map C) _ (sA2.trans t23) (((hq9.mono sA4).mono st).up (by omega)) upd_same nDq (st _ _ eD) mperm (hkp.mono t23.off) hSp hnp (bookA.mono (t1.trans t23).off) (gperm.map C) Cname Cinj fun n hn => hSA n (gperm.symm.subset hn)
end
end Bx
set_option Elab.async false
set_option linter.all false
set_option maxRecDepth 100000
set_option maxHeartbeats 1000000
/-! BxY12: replaced, stood, asked. -/
namespace Bx
open PySem PySem.Spec PyProof.Rows L2
/-! ### texts are good data -/
theorem ok_iff {x : Str} : PyData.strOk x = true ↔ ∀ c ∈ tx x, c < 0x110000 := by
  unfold PyData.strOk
  rw [Array.all_eq_true_iff_forall_mem]
  exact ⟨fun h c hc => of_decide_eq_true (h c (Array.mem_toList_iff.mp hc)), fun h c hc => decide_eq_true (h c (Array.mem_toList_iff.mpr hc))⟩
theorem ok_ofString (s : String) : PyData.strOk (Str.ofString s) = true := ok_iff.mpr fun c hc => by
  have e : tx (Str.ofString s) = s.toList.map Char.toNat := by
    show ((cpsOfBytes 0 0 s.toByteArray.data.toList).toArray).toList = _
    rw [List.toList_toArray]
    exact cpsOfBytes_string s
  rw [e] at hc
  obtain ⟨d, _, rfl⟩ := List.mem_map.mp hc
  have h := d.valid
  simp only [UInt32.isValidChar, Nat.isValidChar] at h
  show d.val.toNat < _
  omega
theorem mem_joinL {c : Nat} {S : List Nat} : ∀ {ps : List (List Nat)}, c ∈ TL.joinL S ps → c ∈ S ∨ ∃ p ∈ ps, c ∈ p
  | [], h => by simp [TL.joinL] at h
  | [p], h => .inr ⟨p, by simp, h⟩
  | p :: q :: r, h => by
    have h : c ∈ p ++ (S ++ TL.joinL S (q :: r)) := h
    rcases List.mem_append.mp h with z | z
    · exact .inr ⟨p, by simp, z⟩
    · rcases List.mem_append.mp z with z | z
      · exact .inl z
      · rcases mem_joinL z with y | ⟨p', hp', y⟩
        · exact .inl y
        · exact .inr ⟨p', List.mem_cons_of_mem _ hp', y⟩
theorem ok_join {a : Str} {ys : List Str} (ha : PyData.strOk a = true) (h : ∀ y ∈ ys, PyData.strOk y = true) : PyData.strOk (Txt.join a ys) = true := ok_iff.mpr fun c hc => by
  rw [TL.join_eq] at hc
  have e : tx (Str.join a ys) = TL.joinL (TL.tl a) (ys.map TL.tl) := TL.tl_join a ys
  rw [e] at hc
  rcases mem_joinL hc with z | ⟨p, hp, z⟩
  · exact ok_iff.mp ha c z
  · obtain ⟨y, hy, rfl⟩ := List.mem_map.mp hp
    exact ok_iff.mp (h y hy) c z
theorem lab_ok : ∀ x ∈ LAB, PyData.strOk x = true := by decide +kernel
theorem pTxt_ok {p : Par} (h : okPar p) : PyData.strOk (pTxt p) = true := by
  refine ok_join (by decide +kernel) fun y hy => ?_
  unfold pWords at hy
  rcases List.mem_append.mp hy with z | z
  · have st : PyData.strOk (sTxt p.t) = true := ok_join (by decide +kernel) fun y hy => by
      rcases List.mem_cons.mp hy with rfl | hy
      · exact ok_ofString _
      · rcases List.mem_cons.mp hy with rfl | hy
        · exact ok_ofString _
        · rw [List.mem_singleton.mp hy]
          exact ok_ofString _
    rcases List.mem_cons.mp z with rfl | z
    · decide +kernel
    · rcases List.mem_cons.mp z with rfl | z
      · exact name_ok h.1
      · rcases List.mem_cons.mp z with rfl | z
        · exact st
        · rcases List.mem_cons.mp z with rfl | z
          · exact ok_ofString _
          · rcases List.mem_cons.mp z with rfl | z
            · exact ok_ofString _
            · rw [List.mem_singleton.mp z]
              exact ok_ofString _
  · obtain ⟨_, _, _, _, _, ls, e⟩ := h
    rw [e] at z
    exact lab_ok y (List.mem_filter.mp z).1
theorem strs_lay' : ∀ l : List Str, (∀ x ∈ l, PyData.strOk x = true) → PyData.canLayAll0 (l.map PyData.str) = true
  | [], _ => by simp [PyData.canLayAll0]
  | x :: r, h => by
    have h1 := h x (List.mem_cons_self ..)
    have h2 := strs_lay' r fun y hy => h y (List.mem_cons_of_mem _ hy)
    simp only [List.map_cons, PyData.canLayAll0, PyData.canLay0, h1, h2, Bool.and_self]
theorem strD_shaped' {l : List Str} (hn : ∀ x ∈ l, PyData.strOk x = true) : SeqAt.shaped (strD l) = true := by
  have h := strs_depth l
  show (PyData.canLay0 (strD l) && decide (PyData.depth (strD l) ≤ 64)) = true
  rw [Bool.and_eq_true]
  refine ⟨by simp only [PyData.canLay0]; exact strs_lay' l hn, decide_eq_true ?_⟩
  simp only [PyData.depth]
  omega
theorem strD_eqv' {l : List Str} (hn : ∀ x ∈ l, PyData.strOk x = true) : PyData.eqv (strD l) (strD l) = true := SeqAt.eqv_refl _ (by simp only [PyData.canLay0]; exact strs_lay' l hn)
theorem plain_par {n : Str} {t : T3} (hn : isName n) (ht : okT t) : okPar ⟨n, t, 1, 0, 0, marksOf []⟩ := ⟨hn, ht, ⟨Int.le_refl 1, (by decide : (1 : Int) ≤ 1000)⟩, ⟨Int.le_refl 0, (by decide : (0 : Int) ≤ 100000)⟩, ⟨Int.le_refl 0, (by decide : (0 : Int) ≤ 100000)⟩, [], rfl⟩
theorem no_erase {l : List Str} {n : Str} (nd : l.Nodup) : n ∉ l.eraseIdx (l.idxOf n) := by
  rw [← List.erase_eq_eraseIdx_of_idxOf (a := n) rfl]
  exact nd.not_mem_erase
theorem yes_erase {l : List Str} {m n : Str} (h : m ∈ l) (e : m ≠ n) : m ∈ l.eraseIdx (l.idxOf n) := by
  rw [← List.erase_eq_eraseIdx_of_idxOf (a := n) rfl]
  exact (List.mem_erase_of_ne e).mpr h
section
variable {P : Program} {w : World} {K : PySem.W.Frag} {mg : Str → Option Value} {base : Heap}
/-! ### stood -/
def spStood (K : PySem.W.Frag) : Sp := fun vs H Q _ => ∃ a dx l xs ps, vs = [.ref a] ∧ HpAt K H a dx l xs ps ∧ (∀ p ∈ ps, okPar p) ∧ ∀ D H', Same H H' → H D = none → H' D = some (.lst ((ps.map pTxt).map V.str)) → Q (.ref D) H'
theorem sc__law_stood : FnScope ["_law_kept", "_law_parcel"] ["_law_kept"] (defScope s__law_stood) := ⟨rfl, rfl, rfl, by decide +kernel, rfl, by decide +kernel, by decide +kernel⟩
theorem F__law_stood (T : Env w K mg) : Fx P w K mg base "_law_stood" 7 ["_law_kept"] (spStood K) := by
  obtain ⟨fd, F⟩ := T.d__law_stood
  have F_Heap_parcels := F_Heap_parcels (P := P) (base := base) T
  have F_Parcel_str := F_Parcel_str (P := P) (base := base) T
  refine ⟨_, fd, T.glo__law_stood, F.kp, F.bindsN fun _ _ _ _ _ _ us hl => match us, hl with | [_], _ => rfl, ?_⟩
  refine F.ok sc__law_stood (fun vs H Q E h => ?_) (fun cdv A outer s H vs Q E hr h => ?_)
  · obtain ⟨a, dx, l, xs, ps, rfl, _⟩ := h
    rfl
  · obtain ⟨a, dx, l, xs, ps, rfl, hh, hok, k⟩ := h
    refine ⟨_, PSs.nox (pss_one (ps_ret (pe_lc (own := [("_law_parcel", 1)]) (g := gName 1) (tt := tYes) (by rfl) sc__law_stood.nd (pi_list (pe_mx0 T.cls_Heap F_Heap_parcels (hr.mono (by decide)) (pv 0))) (blkOk_by (own := [("_law_parcel", 1)]) (N := ["_law_kept", "_law_parcel"]) (sc := defScope s__law_stood) (by decide +kernel)) (fun _ _ _ _ _ => (pg_name (i := 1) sc__law_stood.nd rfl (Or.inl rfl))) (fun _ _ _ _ _ => pts_nil) (fun _ _ _ _ _ => (pe_callTy (call_strOwn F_Parcel_str (hr.mono (by decide))) (by rfl) T.free_str (by decide +kernel) (pa_cons (pv 1) pa_nil)))))), ?_⟩
    have lx : xs.length ≤ 12 := by rw [hh.all.length]; exact hh.few
    refine ⟨_, rfl, a, dx, _, rfl, hh.ins, rfl, a, dx, l, xs, ps, rfl, hh, fun D1 H1 s1 n1 e1 => ?_⟩
    refine ⟨D1, rfl, ⟨_, SqL.of e1⟩, fun D hD => lc_src (walk_list (xs := xs)) (fun A s => SqL.of (s _ _ e1)) hD (Nat.le_trans lx (by decide)) (fun i y _ => ∀ p, ps[i]? = some p → y = .str (pTxt p)) (fun _ _ _ _ _ z => z) (fun i x A ex sA _ Kt kt => ?_) fun A acc sA eD la hR => ?_⟩
    · obtain ⟨p, ep, hp⟩ := Paired.at hh.all ex
      have hp2 := hp.mono (s1.trans sA)
      obtain ⟨pa, pdx, sv, m, rfl, hpa, _⟩ := id hp2
      refine ⟨_, rfl, pa, pdx, _, rfl, hpa, .ref pa, p, rfl, hp2, hok p (List.mem_of_getElem? ep), fun H' s' => ⟨_, rfl, kt _ _ s' fun p' hp' => ?_⟩⟩
      rw [ep] at hp'
      rw [← Option.some.inj hp']
    · have e2 := acc_is (xs := ps) (fun p => V.str (pTxt p)) (by rw [la, hh.all.length]) fun i y hy x hx => hR i y hy x hx
      have nD : H D = none := by
        cases z : H D with
        | none => rfl
        | some u => rw [s1 _ _ z] at hD; cases hD
      refine k D A (s1.trans sA) nD ?_
      rw [eD, e2, List.map_map]
      rfl
/-! ### asked -/
def spAsked (K : PySem.W.Frag) : Sp := fun vs H Q _ => ∃ a dx l xs ps S p ns, vs = [.ref a, .ref p] ∧ HpAt K H a dx l xs ps ∧ SaysT S ps ∧ SqL K H p ((ns : List Str).map V.str) ∧ GoodNames ps S ns ∧ (∀ n ∈ ns, isName n) ∧
  ∀ t H' vp d kvs i q, Same H H' → H d = none → ToldAt K H H' S ns t d vp kvs i q → Q (.ref t) H'
theorem sc__law_asked : FnScope ["_law_kept", "_law_names_here", "_law_asked_here", "_law_stood_here", "_law_found"] ["_law_kept", "_law_names_here"] (defScope s__law_asked) := ⟨rfl, rfl, rfl, by decide +kernel, rfl, by decide +kernel, by decide +kernel⟩
theorem F__law_asked (T : Env w K mg) : Fx P w K mg base "_law_asked" 10 ["_law_kept", "_law_names_here"] (spAsked K) := by
  obtain ⟨fd, F⟩ := T.d__law_asked
  have F__law_stood := F__law_stood (P := P) (base := base) T
  have F_least_bundle := F_least_bundle (P := P) (base := base) T
  refine ⟨_, fd, T.glo__law_asked, F.kp, F.bindsN fun _ _ _ _ _ _ us hl => match us, hl with | [_, _], _ => rfl, ?_⟩
  refine F.ok sc__law_asked (fun vs H Q E h => ?_) (fun cdv A outer s H vs Q E hr h => ?_)
  · obtain ⟨a, dx, l, xs, ps, S, p, ns, rfl, _⟩ := h
    rfl
  · obtain ⟨a, dx, l, xs, ps, S, p, ns, rfl, hh, hS, hp, hg, hnm, k⟩ := h
    refine ⟨_, PSs.nox (pss_cons (ps_par (by rfl) sc__law_asked.nd (i := 2) (j := 3) rfl rfl (by decide) rfl rfl (pa_cons (pe_callTy call_list_of (by rfl) T.free_list (by decide +kernel) (pa_cons (pv 1) pa_nil)) (pa_cons (pe_fx F__law_stood (hr.mono (by decide)) rfl (pa_cons (pv 0) pa_nil)) pa_nil)) (by rfl)) (pss_cons (ps_set (i := 4) sc__law_asked.nd rfl (Or.inl rfl) (pe_fx F_least_bundle (hr.mono (by decide)) rfl (pa_cons (pv 0) (pa_cons (pv 2) pa_nil)))) (pss_one (ps_ret (pe_ifExp (PW.pt (pw_and (pt_cmpR (op_eqD hr.units) (pv 2) (pv 1) (nomark _)) (pw_and1 (pt_cmpR (op_eqD hr.units) (pe_fx F__law_stood (hr.mono (by decide)) rfl (pa_cons (pv 0) pa_nil)) (pv 3) (nomark _))))) (pv 4) (pe_tup (pa_cons pe_int (pa_cons pe_non (pa_cons pe_dnewK pa_nil))))))))), ?_⟩
    have okp : ∀ p ∈ ps, okPar p := fun p hp => (hS p hp).2
    refine ⟨_, rfl, p, _, rfl, .inl hp, fun la hla => ?_⟩
    have s1 := same_upd (u := .lst (ns.map V.str)) hla
    have ela : (upd H la (.lst (ns.map V.str))) la = some (.lst (ns.map V.str)) := upd_same
    generalize upd H la (.lst (ns.map V.str)) = H1 at s1 ela ⊢
    refine ⟨_, rfl, a, dx, l, xs, ps, rfl, hh.mono s1, okp, fun D H2 s2 n2 e2 => ?_⟩
    have s12 := s1.trans s2
    refine ⟨_, _, rfl, ?_⟩
    refine ⟨_, rfl, _, rfl, a, dx, l, xs, ps, S, la, ns, rfl, hh.mono s12, hS, .inl (SqL.of (s2 _ _ ela)), hg, fun t H3 vp d kvs i q s3 nd et hl ed hpa hf => ?_⟩
    have s13 := s12.trans s3
    have ndH : H d = none := by
      cases z : H d with
      | none => rfl
      | some u => rw [s12 _ _ z] at nd; cases nd
    refine ⟨_, rfl, _, rfl, strD ns, strD ns, .lst (SqL.of (s3 _ _ (s2 _ _ ela))) (dp_strs _), .lst (Same.seq s13 hp) (dp_strs _), strD_shaped hnm, strD_shaped hnm, _, rfl, ?_⟩
    rw [strD_eqv hnm]
    refine iteT ?_
    refine ⟨_, rfl, a, dx, l, xs, ps, rfl, hh.mono s13, okp, fun D2 H4 s4 n4 e4 => ?_⟩
    have pok : ∀ x ∈ ps.map pTxt, PyData.strOk x = true := fun x hx => by
      obtain ⟨p, hp, rfl⟩ := List.mem_map.mp hx
      exact pTxt_ok (okp p hp)
    refine ⟨_, rfl, strD (ps.map pTxt), strD (ps.map pTxt), .lst (SqL.of e4) (dp_strs _), .lst (SqL.of (s4 _ _ (s3 _ _ e2))) (dp_strs _), strD_shaped' pok, strD_shaped' pok, _, rfl, ?_⟩
    rw [strD_eqv' pok]
    refine iteT ⟨_, rfl, k t H4 vp d kvs i q (s13.trans s4) ndH ⟨s4 _ _ et, hl.mono s4, s4 _ _ ed, (hpa.mono (off_le.trans s4)).before s12, hf⟩⟩
/-! ### replaced -/
def spReplaced (K : PySem.W.Frag) : Sp := fun vs H Q _ => ∃ a dx l xs ps S S2 d d2 n ks Z, vs = [.ref a, .ref d, .ref d2, .str n] ∧ (∀ b ∈ Z, ∃ u, H b = some u ∧ Dull u) ∧ l ∉ Z ∧ KpAt K (off Z H) a dx l xs ps ∧ SaysT S ps ∧ (pNames ps).Nodup ∧ n ∈ pNames ps ∧ BookAt (off (l :: Z) H) (.ref d) S ks ∧ BookAt (off (l :: Z) H) (.ref d2) S2 ks ∧ n ∈ ks ∧ ks.length ≤ 12 ∧ isName n ∧ okT (S2 n) ∧
  ∀ d' xs' ps' H', Sm [l] H H' → KpAt K (off Z H') a dx l xs' ps' → SaysT (putS S n (S2 n)) ps' → (∀ m, m ∈ pNames ps → m ∈ pNames ps') → BookAt (off (l :: Z) H') (.ref d') (putS S n (S2 n)) ks → Q (.ref d') H'
theorem sc__law_replaced : FnScope ["_law_kept", "_law_book_here", "_law_twin", "_law_name", "_law_found"] ["_law_kept", "_law_book_here", "_law_twin", "_law_name"] (defScope s__law_replaced) := ⟨rfl, rfl, rfl, by decide +kernel, rfl, by decide +kernel, by decide +kernel⟩
theorem F__law_replaced (T : Env w K mg) : Fx P w K mg base "_law_replaced" 5 ["_law_kept", "_law_book_here", "_law_twin", "_law_name"] (spReplaced K) := by
  obtain ⟨fd, F⟩ := T.d__law_replaced
  have F_Heap_out := F_Heap_out (P := P) (base := base) T
  have F_Heap_put := F_Heap_put (P := P) (base := base) T
  have F_Parcel_init := F_Parcel2_init (P := P) (base := base) T
  have F_Sides_init := F_Sides_init (P := P) (base := base) T
  refine ⟨_, fd, T.glo__law_replaced, F.kp, F.bindsN fun _ _ _ _ _ _ us hl => match us, hl with | [_, _, _, _], _ => rfl, ?_⟩
  refine F.ok sc__law_replaced (fun vs H Q E h => ?_) (fun cdv A outer s H vs Q E hr h => ?_)
  · obtain ⟨a, dx, l, xs, ps, S, S2, d, d2, n, ks, Z, rfl, _⟩ := h
    rfl
  · obtain ⟨a, dx, l, xs, ps, S, S2, d, d2, n, ks, Z, rfl, hZ, lZ, hhZ, hS, hnd, hn, hb, hb2, hnk, hk12, hname, hok, k⟩ := h
    refine ⟨_, PSs.nox (pss_cons (ps_expr (pe_mx T.cls_Heap F_Heap_out (hr.mono (by decide)) (pv 0) (pa_cons (pv 3) pa_nil))) (pss_cons (ps_expr (pe_mx T.cls_Heap F_Heap_put (hr.mono (by decide)) (pv 0) (pa_cons (pe_kx F_Parcel_init (hr.mono (by decide)) rfl (pa_cons (pv 3) (pa_cons (pe_kx F_Sides_init (hr.mono (by decide)) rfl (pa_cons (pe_ix ix_list (pe_dget (hu_of hr) (pv 2) (pv 3) (fun _ _ => rfl)) pe_int (fun _ _ => rfl)) (pa_cons (pe_ix ix_list (pe_dget (hu_of hr) (pv 2) (pv 3) (fun _ _ => rfl)) pe_int (fun _ _ => rfl)) (pa_cons (pe_ix ix_list (pe_dget (hu_of hr) (pv 2) (pv 3) (fun _ _ => rfl)) pe_int (fun _ _ => rfl)) pa_nil)))) pa_nil))) pa_nil))) (pss_cons (ps_set (i := 4) sc__law_replaced.nd rfl (Or.inl rfl) (pe_callTy call_dictD (by rfl) T.free_dict (by decide +kernel) (pa_cons (pv 1) pa_nil))) (pss_cons (ps_dput (hu_of hr) (pv 4) (pv 3) (pe_dget (hu_of hr) (pv 2) (pv 3) (fun _ _ => rfl)) rfl) (pss_one (ps_ret (pv 4))))))), ?_⟩
    have hh := hhZ.mono off_le
    have leZ : ∀ {A : Hp}, Same (off (l :: Z) A) (off [l] A) := fun b u z => by
      have mm : b ∉ l :: Z := fun y => by rw [off_in y] at z; cases z
      rw [off_out mm] at z
      rw [off_out fun y => mm (by rw [List.mem_singleton.mp y]; simp)]
      exact z
    have offZ : ∀ {A B : Hp}, Sm [l] A B → Same (off (l :: Z) A) (off (l :: Z) B) := fun s => Sm.off (s.wid fun b m => by rw [List.mem_singleton.mp m]; simp)
    have offZ2 : ∀ {A B : Hp}, Sm [l] A B → Same (off [l] (off Z A)) (off [l] (off Z B)) := fun s => by
      rw [off_off, off_off]
      exact offZ s
    have offZ1 : ∀ {A B : Hp} {b : Addr} {u : HO}, Sm [l] A B → b ≠ l → off Z A b = some u → off Z B b = some u := fun {A B b u} s n e => by
      have mm : b ∉ Z := fun y => by rw [off_in y] at e; cases e
      rw [off_out mm] at e ⊢
      exact s b u (fun m => n (List.mem_singleton.mp m)) e
    obtain ⟨d0, kvs, ⟨⟩, hdZ, hkvsZ⟩ := hb
    obtain ⟨d1, kvs2, ⟨⟩, hd2Z, hkvs2Z⟩ := hb2
    have hd := leZ _ _ hdZ
    have hkvs := ents_mono leZ hkvsZ
    have hd2 := leZ _ _ hd2Z
    have hkvs2 := ents_mono leZ hkvs2Z
    obtain ⟨v2, ev, r2, rfl, hr2Z⟩ := book_get hkvs2Z hnk
    have hr2 := leZ _ _ hr2Z
    have ndl : d ≠ l := fun z => by rw [z, off_in (List.mem_singleton.mpr rfl)] at hd; cases hd
    have ndl2 : d2 ≠ l := fun z => by rw [z, off_in (List.mem_singleton.mpr rfl)] at hd2; cases hd2
    have gd2 : ∀ {A : Hp}, Sm [l] H A → DGet A d2 (.str n) (some (.ref r2)) := fun {A} s => by
      have := DGet.k (k := Sum.inr n) ((s.off.trans off_le) _ _ hd2)
      rw [ev] at this
      exact this
    have hr2A : ∀ {A : Hp}, Sm [l] H A → A r2 = some (.lst (S2 n).v) := fun s => (s.off.trans off_le) _ _ hr2
    refine ⟨_, rfl, a, dx, _, rfl, hh.ins, rfl, _, rfl, a, dx, l, xs, ps, n, rfl, hh.hp, hn, fun v H1 s1 e1 => ?_⟩
    have nal : a ≠ l := fun z => by
      have e := hh.ins
      rw [z, hh.lst] at e
      cases e
    have h1 : KpAt K H1 a dx l (xs.eraseIdx (pIdx ps n)) (ps.eraseIdx (pIdx ps n)) := ⟨s1 a _ (fun m => nal (List.mem_singleton.mp m)) hh.ins, e1, paired_erase _ (L2.Paired.mapP hh.all fun _ _ z => z.mono s1.off), by
      have := hh.few
      rw [List.length_eraseIdx]
      split <;> omega⟩
    refine ⟨_, rfl, a, dx, _, rfl, h1.ins, rfl, ?_⟩
    have x0 : atI (T3.v (S2 n)) 0 = some (.int (S2 n).x) := rfl
    have x1 : atI (T3.v (S2 n)) 1 = some (.int (S2 n).y) := rfl
    have x2 : atI (T3.v (S2 n)) 2 = some (.int (S2 n).z) := rfl
    refine ⟨_, rfl, _, rfl, _, rfl, d2, _, rfl, gd2 s1, r2, _, 0, _, rfl, rfl, SqL.of (hr2A s1), x0, _, rfl, _, rfl, d2, _, rfl, gd2 s1, r2, _, 1, _, rfl, rfl, SqL.of (hr2A s1), x1, _, rfl, _, rfl, d2, _, rfl, gd2 s1, r2, _, 2, _, rfl, rfl, SqL.of (hr2A s1), x2, ?_⟩
    refine make_sides2 hok fun sv A2 s2 hsv => ?_
    refine make_parcel2 (q := ⟨n, S2 n, 1, 0, 0, marksOf []⟩) (sv := .ref sv) (lv := .non) (ls := []) (plain_par hname hok) rfl hsv (.inl ⟨rfl, rfl⟩) rfl fun pv A3 s3 hpv => ?_
    have s23 := s2.trans s3
    have h3 := h1.mono s23
    have el2 := s2 _ _ e1
    have nin : n ∉ pNames (ps.eraseIdx (pIdx ps n)) := by
      unfold pNames
      rw [← map_erase]
      exact no_erase hnd
    have elen : (ps.eraseIdx (pIdx ps n)).length < 12 := by
      have := hh.few
      have hlt : pIdx ps n < ps.length := by
        have := List.idxOf_lt_length_of_mem hn
        rwa [List.length_map] at this
      rw [List.length_eraseIdx, if_pos hlt]
      omega
    refine ⟨a, dx, l, _, _, .ref pv, ⟨n, S2 n, 1, 0, 0, marksOf []⟩, rfl, h3.hp, hpv.at_, nin, elen, fun H4 s4 e4 => ?_⟩
    have s14 : Sm [l] H H4 := s1.trans ((Same_sm s23).trans s4)
    refine ⟨_, rfl, d, kvs, rfl, .inl ((s14.off.trans off_le) _ _ hd), fun f hf => ?_⟩
    have s5 := same_upd (u := .dK kvs) hf
    have ef : (upd H4 f (.dK kvs)) f = some (.dK kvs) := upd_same
    have nfl : f ≠ l := fun z => by rw [z, e4] at hf; cases hf
    have nfH : H f = none := by
      cases z : H f with
      | none => rfl
      | some u =>
        rw [s14 f u (fun m => nfl (List.mem_singleton.mp m)) z] at hf
        cases hf
    have s15 : Sm [l] H (upd H4 f (.dK kvs)) := s14.trans (Same_sm s5)
    have e5 := s5 _ _ e4
    have s35 : Sm [l] A3 (upd H4 f (.dK kvs)) := s4.trans (Same_sm s5)
    have nf3 : A3 f = none := by
      cases z : A3 f with
      | none => rfl
      | some u =>
        rw [s4 f u (fun m => nfl (List.mem_singleton.mp m)) z] at hf
        cases hf
    generalize upd H4 f (.dK kvs) = H5 at ef s15 e5 s35 ⊢
    have lk := hkvs.length
    refine ⟨_, rfl, _, rfl, d2, _, rfl, gd2 s15, _, rfl, _, rfl, f, _, rfl, DPut.k (k := Sum.inr n) ef (by rw [lk]; exact Nat.lt_of_le_of_lt hk12 (by decide)), _, rfl, ?_⟩
    have s16 : Sm [l] H (upd H5 f (.dK (putK kvs (Sum.inr n) (.ref r2)))) := fun b u m z => by
      rw [upd_ne fun e => by rw [e, nfH] at z; cases z]
      exact s15 _ _ m z
    have s36 : Sm [l] A3 (upd H5 f (.dK (putK kvs (Sum.inr n) (.ref r2)))) := fun b u m z => by
      rw [upd_ne fun e => by rw [e, nf3] at z; cases z]
      exact s35 _ _ m z
    have hZ3 : ∀ b ∈ Z, ∃ u, A2 b = some u ∧ A3 b = some u ∧ Dull u := fun b m => by
      obtain ⟨u, e, du⟩ := hZ b m
      have e2 := s2 _ _ (s1 b u (fun y => lZ (by rw [← List.mem_singleton.mp y]; exact m)) e)
      exact ⟨u, e2, s3 _ _ e2, du⟩
    have dl : ∀ b ∈ [l] ++ Z, ∀ u, A3 b = some u → Dull u := fun b m u e => by
      rcases List.mem_append.mp m with m | m
      · rw [List.mem_singleton.mp m, h3.lst] at e
        exact .inl ⟨_, (Option.some.inj e).symm⟩
      · obtain ⟨u', _, e', du⟩ := hZ3 b m
        rw [e] at e'
        rw [Option.some.inj e']
        exact du
    have nfZ : f ∉ Z := fun m => by
      obtain ⟨u, e, _⟩ := hZ f m
      rw [nfH] at e
      cases e
    refine k f _ (ps.eraseIdx (pIdx ps n) ++ [⟨n, S2 n, 1, 0, 0, marksOf []⟩]) _ s16 ⟨offZ1 s16 nal hhZ.ins, by rw [off_out lZ, upd_ne nfl.symm]; exact e5, paired_app (L2.Paired.mapP (paired_erase _ hhZ.all) fun _ _ z => z.mono (offZ2 s16)) (.cons (ParAt.mono (offZ2 s36) ?_) .nil), by rw [List.length_append]; exact elen⟩ ?_ ?_ ⟨f, _, rfl, by rw [off_out (fun m => by rcases List.mem_cons.mp m with m | m; exact nfl m; exact nfZ m)]; exact upd_same, book_put ⟨r2, rfl, ?_⟩ (ents_mono (offZ s16) hkvsZ) hnk⟩
    · obtain ⟨pa, pdx, psv, m, ⟨⟩, hpa, hps, hm0, hm1⟩ := hpv
      rw [off_off]
      refine ⟨pv, pdx, psv, m, rfl, off_keep dl hpa dull_ins, sides_off dl hps, ?_⟩
      rw [off_out fun y => ?_]
      · exact hm1
      · rcases List.mem_append.mp y with y | y
        · rw [List.mem_singleton.mp y, el2] at hm0
          cases hm0
        · obtain ⟨u, e, _⟩ := hZ3 m y
          rw [hm0] at e
          cases e
    · intro p hp
      unfold putS
      rcases List.mem_append.mp hp with z | z
      · rw [if_neg fun e => nin (List.mem_map.mpr ⟨p, z, e⟩)]
        exact hS p (List.mem_of_mem_eraseIdx z)
      · rw [List.mem_singleton.mp z, if_pos rfl]
        exact ⟨rfl, plain_par hname hok⟩
    · intro m hm
      rw [show pNames (ps.eraseIdx (pIdx ps n) ++ [(⟨n, S2 n, 1, 0, 0, marksOf []⟩ : Par)]) = (pNames ps).eraseIdx (pIdx ps n) ++ [n] by simp [pNames, map_erase]]
      by_cases e : m = n
      · rw [e]
        simp
      · exact List.mem_append_left _ (yes_erase hm e)
    · exact offZ s16 _ _ hr2Z
end
end Bx
set_option Elab.async false
set_option linter.all false
set_option maxRecDepth 100000
set_option maxHeartbeats 1000000
/-! BxR1: pop of a tuple key that is there; a def's run at the caller alone. -/
namespace Bx
open PySem PySem.Spec PyProof.Rows L2
section
variable {prog : Program} {w : World} {κ : Type} [DecidableEq κ] {knd : HeapKind prog w κ}
/-- d.pop(k), k there -/
theorem meets_pop1 {d b : Addr} {k : κ} (hd : (d == sysModules) = false) :
    MeetsIn prog w (Builtin.«dict.pop» ⟨[.ref d, .ref b], []⟩) (fun A R s => ∃ xs p0, knd.room A.in1 ∧ knd.is s.heap k b ∧ s.heap.DictOfH knd d xs ∧ xs.length ≤ sizeLine ∧ atKey xs k = some p0 ∧
      ∀ p, atKey xs k = some p → ∀ h' tk, h'.DictOfH knd d (DT.dropH xs k) → Heap.SameBut d s.heap h' → R (.ok (.ret p.2)) { s with heap := h', toks := tk }) :=
  .of_wp fun A R s ⟨xs, p0, hu, hkey, hm, hsz, hk, hsome⟩ => by
    obtain ⟨o, es, ep, ho, hc, hdat, he, his, hn⟩ := id hm
    have hes : es.size = xs.length := size_of_entries he
    have hpart : (keyPart (Value.ref b)).isSome = false := rfl
    have hne : xs ≠ [] := fun z => by
      rw [z] at hk
      cases hk
    have hem : es.isEmpty = false := by
      have := List.length_pos_iff.mpr hne
      cases q : es.isEmpty with
      | false => rfl
      | true =>
        have : es.size = 0 := by simpa using q
        omega
    unfold Builtin.«dict.pop»
    refine wpAny_bind ?_
    unfold Builtin.Dict.keyAndDefault
    refine wpAny_bind (wpAny_notOrdered_dict hm.typeIs ?_)
    show wpAny _ _ (pure (d, Value.ref b, none)) _ _ s
    refine wpAny_pure ?_
    simp only [hpart, Bool.false_eq_true, if_false]
    refine wpAny_bind (wpAny_dictEntries ho hdat (wpAny_bind (wpAny_pure ?_)))
    simp only [hem, Bool.false_eq_true, if_false]
    refine wpAny_bind (DT.takeH hu hkey hm hsz (fun hno => ?_) fun p e hp hev h' hm' hs' => ?_)
    · rw [hk] at hno
      cases hno
    · simp only [Option.isNone_some, Bool.false_eq_true, if_false]
      exact wpAny_bind (wpAny_letGo (wpAny_pure ⟨e.val, rfl, by rw [hev]; exact hsome p hp h' _ hm' hs'⟩))
end
/-- d.pop(t), t a tuple of texts that is a key -/
def rPop1 : V → List V → Hp → VK → Prop := fun x xs H Q => ∃ (a : Addr) (kvs : List (List Key × V)) (k : List Key) (b : Addr) (v : V), x = .ref a ∧ xs = [.ref b] ∧ H a = some (.dT kvs) ∧ H b = some (.tup (k.map kV)) ∧ valV kvs k = some v ∧ Q v (upd H a (.dT (dropK kvs k)))
theorem mt_pop1 {X : Cx} (hu : X.A.units + 1 < cLine) : MtR X "dict.pop" rPop1 := by
  intro pins s σ H x xs v us Q I rx rxs h
  obtain ⟨a, kvs, k, b, v1, rfl, rfl, ha, hb, hk, q1⟩ := h
  cases rx
  obtain ⟨u1, rfl, r1⟩ := vals1 rxs
  cases r1
  obtain ⟨z, hd, xs', rel, dd⟩ := dt_of I.hok ha
  have hz : xs'.length ≤ sizeLine := by rw [← rel.length]; exact z
  obtain ⟨p0, ep0⟩ : ∃ p0, atKey xs' k = some p0 := by
    have r := rel.val k
    rw [hk] at r
    cases e : atKey xs' k with
    | none =>
      rw [e] at r
      exact (show False from r).elim
    | some p0 => exact ⟨p0, rfl⟩
  refine call_meetsIn PySem.F.slot_dict_pop dd.typeIs PySem.F.entry_dict_pop (PySem.F.args_dict_pop_2 _ _) (meets_pop1 (knd := tupleKind (mixKind X.prog X.w)) (k := k) hd)
    ⟨xs', p0, tupleKind_room_in1 hu, key_of I.hok hb, dd, hz, ep0, fun p hp h' tk dd' hs => ?_⟩
  have r := rel.val k
  rw [hp, hk] at r
  have rv : RelV v1 p.2 := r
  obtain ⟨o, es, ep, hq, h2, h3, h4, _, h5⟩ := dd'
  have I2 : Inv X pins σ (upd H a (.dT (dropK kvs k))) { s with heap := h', toks := tk } :=
    d_write I (by rw [ha]; exact True.intro) hs ⟨o, hq⟩ ⟨Nat.le_trans (dropK_le kvs k) z, hd, _, (DX.KT_drop k rel).keeps (fun c ys ec => (by rw [upd_ne (ne_of ec ha (fun z => nomatch z))]; exact ec)), o, es, ep, hq, h2, h3, h4, h5⟩
  exact ⟨v1, _, I2, rv, q1⟩
end Bx
set_option Elab.async false
set_option linter.all false
set_option maxRecDepth 100000
set_option maxHeartbeats 1000000
/-! BxY13: first_right. -/
namespace Bx
open PySem PySem.Spec PyProof.Rows L2
theorem ints_lay : ∀ l : List Int, PyData.canLayAll0 (l.map PyData.int) = true
  | [] => by simp [PyData.canLayAll0]
  | x :: r => by simp [PyData.canLayAll0, PyData.canLay0, ints_lay r]
theorem ints_depth : ∀ l : List Int, PyData.depthAll (l.map PyData.int) ≤ 1
  | [] => by simp [PyData.depthAll]
  | x :: r => by
    have := ints_depth r
    simp only [List.map_cons, PyData.depthAll, PyData.depth]
    omega
abbrev intD (l : List Int) : PyData := .list (l.map PyData.int)
theorem intD_shaped (l : List Int) : SeqAt.shaped (intD l) = true := by
  have h := ints_depth l
  show (PyData.canLay0 (intD l) && decide (PyData.depth (intD l) ≤ 64)) = true
  rw [Bool.and_eq_true]
  refine ⟨by simp only [PyData.canLay0]; exact ints_lay l, decide_eq_true ?_⟩
  simp only [PyData.depth]
  omega
theorem intD_ne {a b : List Int} (h : a = b) : (!PyData.eqv (intD a) (intD b)) = false := by
  rw [h, SeqAt.eqv_refl _ (by simp only [PyData.canLay0]; exact ints_lay b)]
  rfl
theorem dp_ints {K : PySem.W.Frag} {H : Hp} : ∀ l : List Int, DpAll K H (l.map V.int) (l.map PyData.int)
  | [] => .nil
  | x :: r => .cons (.int x) (dp_ints r)
/-- what is told stands apart from the purse -/
theorem told_off {K : PySem.W.Frag} {H0 H : Hp} {S : Str → T3} {ns : List Str} {t d : Addr} {vp : V} {kvs : List (List Key × V)} {i : Nat} {q0 : Laid} {q : Addr} {B B0 : Nat} (hq0 : PurseAt H0 q B0) (hq : PurseAt H q B) (h : ToldAt K H0 H S ns t d vp kvs i q0) : ToldAt K H0 (off [q] H) S ns t d vp kvs i q0 := by
  obtain ⟨_, _, _, eq, _⟩ := id hq
  have lst : ∀ b ∈ [q], ∀ u, H b = some u → ∃ xs, u = .lst xs := fun b m u e => by
    rw [List.mem_singleton.mp m, eq] at e
    exact ⟨_, (Option.some.inj e).symm⟩
  refine ⟨?_, lay_off lst h.lay, ?_, L2.Paired.mapP h.ents fun kv x z => ?_, h.fst⟩
  · rw [off_out fun m => ?_]
    · exact h.tup
    · have e := h.tup
      rw [List.mem_singleton.mp m, eq] at e
      cases e
  · rw [off_out fun m => ?_]
    · exact h.dct
    · have e := h.dct
      rw [List.mem_singleton.mp m, eq] at e
      cases e
  · obtain ⟨h1, l, us, h2, h3, h4, h5⟩ := z
    refine ⟨h1, l, us, h2, h3, ?_, L2.Paired.mapP h5 fun _ _ z => lay_off lst z⟩
    rw [off_out fun m => hq0.has h3 (List.mem_singleton.mp m)]
    exact h4
section
variable {P : Program} {w : World} {K : PySem.W.Frag} {mg : Str → Option Value} {base : Heap}
theorem sc__law_first_right : FnScope ["_law_purse_here", "_law_kept", "_law_book_here", "_law_names_here", "_law_found", "_law_sizes", "_law_again", "_law_choice"] ["_law_purse_here", "_law_kept", "_law_book_here", "_law_names_here", "_law_found"] (defScope s__law_first_right) := ⟨rfl, rfl, rfl, by decide +kernel, rfl, by decide +kernel, by decide +kernel⟩
theorem F__law_first_right (T : Env w K mg) : Fx P w K mg base "_law_first_right" 15 ["_law_purse_here", "_law_kept", "_law_book_here", "_law_names_here", "_law_found"] (fun vs H Q E => ∃ q B a dx l xs ps b S ks p ns t d vp kvs i q0 H0, vs = [.ref q, .ref a, b, .ref p, .ref t] ∧ PurseAt H q B ∧ B ≤ 700000 ∧ HpAt K (off [q] H) a dx l xs ps ∧ SaysT S ps ∧ BookAt (off [q] H) b S ks ∧
  p ≠ q ∧ SqL K H p ((ns : List Str).map V.str) ∧ GoodNames ps S ns ∧ (∀ n ∈ ns, n ∈ ks ∧ isName n) ∧ ToldAt K H0 (off [q] H) S ns t d vp kvs i q0 ∧ ∀ H', Sm [q] H H' → PurseAt H' q (B + 800) → Q (.bl true) H') := by
  obtain ⟨fd, F⟩ := T.d__law_first_right
  have F__law_right := F__law_right (P := P) (base := base) T
  have F_least_bundle := F_least_bundle (P := P) (base := base) T
  refine ⟨_, fd, T.glo__law_first_right, F.kp, F.bindsN fun _ _ _ _ _ _ us hl => match us, hl with | [_, _, _, _, _], _ => rfl, ?_⟩
  refine F.ok sc__law_first_right (fun vs H Q E h => ?_) (fun cdv A outer s H vs Q E hr h => ?_)
  · obtain ⟨q, B, a, dx, l, xs, ps, b, S, ks, p, ns, t, d, vp, kvs, i, q0, H0, rfl, _⟩ := h
    rfl
  · obtain ⟨q, B, a, dx, l, xs, ps, b, S, ks, p, ns, t, d, vp, kvs, i, q0, H0, rfl, hq, hB, hh, hS, hb, npq, hp, hg, hin, ht, k⟩ := h
    refine ⟨_, PSs.nox (pss_cons (ps_lock (ps_setLc (i := 5) (own := [("_law_choice", 7)]) (g := gName 7) (tt := tYes) (by rfl) sc__law_first_right.nd rfl rfl (sw_true rfl rfl rfl (by decide +kernel)) (pi_keys (pe_ix ix_tup (pv 4) pe_int (fun _ _ => rfl))) (blkOk_by (own := [("_law_choice", 7)]) (N := ["_law_purse_here", "_law_kept", "_law_book_here", "_law_names_here", "_law_found", "_law_sizes", "_law_again", "_law_choice"]) (sc := defScope s__law_first_right) (by decide +kernel)) (fun _ _ _ _ _ => (pg_name (i := 7) sc__law_first_right.nd rfl (Or.inl rfl))) (fun _ _ _ _ _ => pts_nil) (fun _ _ _ _ _ => (pe_callB (call_len_seqK K) (by rfl) T.free_len (by decide +kernel) (pa_cons (pv 7) pa_nil))))) (pss_cons (ps_if (PW.pt (pw_or (pt_cmpR (op_neD hr.units) (pv 5) (pe_callB cr_sorted (by rfl) T.free_sorted (by decide +kernel) (pa_cons (pv 5) pa_nil)) (nomark _)) (pw_or1 (pt_not (pt_val (pe_fx F__law_right (hr.mono (by decide)) rfl (pa_cons (pv 0) (pa_cons (pv 1) (pa_cons (pv 2) (pa_cons (pv 3) (pa_cons (pv 4) pa_nil))))))))))) (pss_one (ps_ret pe_bl)) pss_nil) (pss_cons (ps_if (pt_cmpR op_lt (pe_callB call_len_seq (by rfl) T.free_len (by decide +kernel) (pa_cons (pv 3) pa_nil)) pe_int (nomark _)) (pss_one (ps_ret pe_bl)) pss_nil) (pss_cons (ps_set (i := 6) sc__law_first_right.nd rfl (Or.inl rfl) (pe_fx F_least_bundle (hr.mono (by decide)) rfl (pa_cons (pv 1) (pa_cons (pe_callTy call_tupS (by rfl) T.free_tuple (by decide +kernel) (pa_cons (pv 3) pa_nil)) pa_nil)))) (pss_one (ps_ret (pe_fx F__law_right (hr.mono (by decide)) rfl (pa_cons (pv 0) (pa_cons (pv 1) (pa_cons (pv 2) (pa_cons (pv 3) (pa_cons (pv 6) pa_nil)))))))))))), ?_⟩
    have htH := ht.mono off_le
    refine ⟨d, .dT kvs, htH.dct, trivial, fun od => ?_⟩
    have tnd : t ≠ d := fun z => by
      have e := htH.tup
      rw [z, htH.dct] at e
      cases e
    refine ⟨_, rfl, t, _, _, _, rfl, rfl, SqT.of (by rw [upd_ne tnd]; exact htH.tup), rfl, d, od, rfl, .inr ⟨kvs, upd_same, fun D hD => ?_⟩⟩
    have nDd : D ≠ d := fun z => by rw [z, upd_same] at hD; cases hD
    have nD : H D = none := by rwa [upd_ne nDd] at hD
    have lk16 : kvs.length ≤ 16 := by
      rw [htH.ents.length, ← List.length_map (f := (·.1)), full_keys]
      exact choices_len hg.few
    refine lc_acc walk_keysT [] (fun _ _ => True) (fun i acc A => acc = ((kvs.take i).map fun kv => (kv.1.length : Int)).map V.int) hD (by simp) (fun _ _ _ _ => trivial) trivial rfl (fun A s => s _ _ (by simp) upd_same) (fun i x A A1 acc hi sA _ eD hP y Kt Kf kt _ => ?_) (fun A acc sA _ eD hP => ?_)
    · obtain ⟨rfl, kk, v, qq, ekv, rfl, hqq⟩ := y
      refine ⟨rfl, ?_⟩
      refine iteT (B := True) ?_
      refine ⟨_, rfl, qq, _, rfl, .inr (SqT.of hqq), kt _ _ Sm.refl ?_ trivial ?_⟩
      · rw [hP, List.length_map, List.length_map, List.length_take]
        exact Nat.lt_of_le_of_lt (show _ ≤ 16 by omega) (by decide)
      · rw [hP, List.take_add_one, ekv, List.map_append, List.map_append, List.length_map]
        rfl
    · rw [List.take_length] at hP
      subst hP
      have sHA : Same H (upd A d (.dT kvs)) := fun b u z => by
        by_cases e : b = d
        · rw [e] at z ⊢
          rw [upd_same, ← htH.dct, z]
        · rw [upd_ne e]
          exact sA b u (by simp) (by rw [upd_ne e]; exact z)
      have eD2 : (upd A d (.dT kvs)) D = some (.lst ((kvs.map fun kv => (kv.1.length : Int)).map V.int)) := by
        rw [upd_ne nDd]
        exact eD
      refine ⟨sA d _ (by simp) upd_same, ?_⟩
      generalize upd A d (.dT kvs) = A2 at sHA eD2 ⊢
      have hl64 : (kvs.map fun kv => (kv.1.length : Int)).length < 64 := by
        rw [List.length_map]
        omega
      have hsort : (kvs.map fun kv => (kv.1.length : Int)).Pairwise (· ≤ ·) := by
        have e : kvs.map (fun kv => (kv.1.length : Int)) = (choicesOf ns).map fun c => (c.length : Int) := by
          rw [← full_keys S ns, List.map_map]
          refine List.ext_getElem? fun j => ?_
          rw [List.getElem?_map, List.getElem?_map]
          cases ej : kvs[j]? with
          | none =>
            have hj : (laidLists S ns)[j]? = none := by
              rw [List.getElem?_eq_none_iff] at ej ⊢
              rw [← htH.ents.length]
              exact ej
            rw [hj]
            rfl
          | some kv =>
            obtain ⟨x, ex, hx, _⟩ := Paired.at htH.ents ej
            rw [ex]
            show some (kv.1.length : Int) = some (x.1.length : Int)
            rw [hx, List.length_map]
        rw [e, List.pairwise_map]
        exact List.Pairwise.imp (fun {a b} h => by omega) (choices_sorted ns)
      generalize kvs.map (fun kv => (kv.1.length : Int)) = zs at eD2 hl64 hsort
      refine ⟨_, rfl, _, rfl, D, zs, rfl, SqL.of eD2, hl64, fun zs' p1 perm1 so1 hp1 => ?_⟩
      have ez : zs' = zs := List.Perm.eq_of_pairwise (le := (· ≤ ·)) (fun a b _ _ h1 h2 => Int.le_antisymm h1 h2) so1 hsort perm1
      subst ez
      have s3 := same_upd (u := .lst (zs'.map V.int)) hp1
      refine ⟨intD zs', intD zs', .lst (SqL.of (s3 _ _ eD2)) (dp_ints _), .lst (SqL.of upd_same) (dp_ints _), intD_shaped _, intD_shaped _, _, rfl, iteE false (intD_ne rfl) ?_⟩
      generalize upd A2 p1 (.lst (zs'.map V.int)) = A3 at s3
      have s13 := sHA.trans s3
      have so := off_mono (S := [q]) s13
      refine ⟨_, rfl, _, rfl, _, rfl, _, rfl, _, rfl, q, B, a, dx, l, xs, ps, b, S, ks, p, ns, t, d, vp, kvs, i, q0, H0, rfl, hq.mono s13, by omega, hh.mono so, hS, hb.mono so, npq, Same.seq s13 hp, hg, hin, ht.mono so, fun A4 s4 hq4 => ?_⟩
      refine ⟨_, rfl, iteF ?_⟩
      have s14 : Sm [q] H A4 := (Same_sm s13).trans s4
      have hp4 := seq_sm npq hp s14
      refine ⟨_, rfl, p, _, rfl, .inl hp4, _, _, rfl, rfl, _, rfl, ite2 (fun hb4 => ?_) (fun hb4 => ?_)⟩
      · exact k A4 s14 (hq4.up (by omega))
      · refine ⟨_, rfl, _, rfl, p, _, rfl, .inl hp4, fun u A5 s5 ⟨bb, eu, eb⟩ => ?_⟩
        subst eu
        have s15 := s14.trans (Same_sm s5)
        have hh5 := (hh.mono s15.off).mono off_le
        refine ⟨a, dx, l, xs, ps, S, bb, ns, rfl, hh5, hS, .inr eb, hg, fun t2 A6 vp2 d2 kvs2 i2 q2 s6 nd2 et2 hl2 ed2 hpa2 hf2 => ?_⟩
        have hq5 := hq4.mono s5
        have hq6 := hq5.mono s6
        have told2 : ToldAt K A5 A6 S ns t2 d2 vp2 kvs2 i2 q2 := ⟨et2, hl2, ed2, hpa2.mono off_le, hf2⟩
        have s16 := s15.trans (Same_sm s6)
        refine ⟨_, rfl, _, rfl, _, rfl, _, rfl, _, rfl, q, _, a, dx, l, xs, ps, b, S, ks, p, ns, t2, d2, vp2, kvs2, i2, q2, A5, rfl, hq6, by omega, hh.mono s16.off, hS, hb.mono s16.off, npq, seq_sm npq hp s16, hg, hin, told_off hq5 hq6 told2, fun A7 s7 hq7 => ?_⟩
        exact k A7 (s16.trans s7) (hq7.up (by omega))
end
end Bx
set_option Elab.async false
set_option linter.all false
set_option maxRecDepth 100000
set_option maxHeartbeats 1000000
/-! BxR2: repr of what is told. -/
namespace Bx
open PySem PySem.Spec PyProof.Rows L2
def layD : Lay → PyData
  | .one n o => .tuple [.str "one", .str n, oD o]
  | .by_ k a b => .tuple [.str "by", .int (k.val : Int), layD a, layD b]
theorem dp_ord {K : PySem.W.Frag} {H : Hp} {v : V} {o : Fin 6} (h : OrdAt K H v o) : Dp K H v (oD o) := by
  obtain ⟨p, rfl, hp⟩ := h
  exact .tup hp (.cons (.int _) (.cons (.int _) (.cons (.int _) .nil)))
theorem dp_lay {K : PySem.W.Frag} {H : Hp} : ∀ {L : Lay} {v : V}, LayAt K H v L → Dp K H v (layD L)
  | .one n o, v, ⟨q, ⟨p, e, hp⟩, h2⟩ => by
    subst e
    exact .tup hp (.cons (.str _) (.cons (.str _) (.cons (dp_ord h2) .nil)))
  | .by_ k a b, v, ⟨va, vb, ⟨p, e, hp⟩, h2, h3⟩ => by
    subst e
    exact .tup hp (.cons (.str _) (.cons (.int _) (.cons (dp_lay h2) (.cons (dp_lay h3) .nil))))
theorem oD_no : ∀ o : Fin 6, (oD o).hasDict = false ∧ (oD o).showable = true ∧ (oD o).shown.length = 9 ∧ (oD o).depth = 1 := by decide +kernel
theorem layD_no : ∀ L : Lay, (layD L).hasDict = false ∧ (layD L).showable = true
  | .one n o => by
    have h := oD_no o
    simp [layD, PyData.hasDict, PyData.hasDictAll, PyData.showable, PyData.showableAll, h.1, h.2.1]
  | .by_ k a b => by
    have h1 := layD_no a
    have h2 := layD_no b
    have h3 : (k.val : Int).natAbs.log2 < 1920 := log_small (by omega)
    simp only [layD, PyData.hasDict, PyData.hasDictAll, PyData.showable, PyData.showableAll, h1.1, h2.1, h1.2, h2.2, decide_eq_true h3, Bool.or_self, Bool.and_self]
    exact ⟨trivial, trivial⟩
theorem layD_depth : ∀ L : Lay, (layD L).depth ≤ L.depth + 2
  | .one n o => by
    have h := (oD_no o).2.2.2
    simp only [layD, PyData.depth, PyData.depthAll, h]
    show _ ≤ 0 + 2
    omega
  | .by_ k a b => by
    have h1 := layD_depth a
    have h2 := layD_depth b
    simp only [layD, PyData.depth, PyData.depthAll]
    show _ ≤ max a.depth b.depth + 1 + 2
    omega
theorem tuple_le (ts : List Str) : (tupleText ts).length ≤ piled ts + 3 := by
  have h : (Str.join ", " ts).length ≤ piled ts := by
    cases ts with
    | nil => exact Nat.zero_le _
    | cons a r =>
      have := join_length_add (a :: r) (by simp)
      omega
  unfold tupleText
  rw [strLen_append, strLen_append]
  have h1 : ("(" : Str).length = 1 := by decide +kernel
  have h2 : ((if ts.length == 1 then ",)" else ")" : String) : Str).length ≤ 2 := by
    split <;> decide +kernel
  rw [h1]
  omega
theorem text_le : ∀ (ts : List Str) (k : Nat) (acc : Str), (textFrom k acc ts).length ≤ acc.length + piled ts
  | [], k, acc => Nat.le_refl _
  | t :: r, k, acc => by
    have h := text_le r (k + 1) (acc ++ (if k > 0 then ", " else "" : String) ++ t)
    rw [strLen_append, strLen_append] at h
    have h2 : ((if k > 0 then ", " else "" : String) : Str).length ≤ 2 := by
      split <;> decide +kernel
    show (textFrom (k + 1) _ r).length ≤ _
    rw [piled_cons]
    omega
theorem list_le (ts : List Str) : (listText ts).length ≤ piled ts + 2 := by
  have h := text_le ts 0 "["
  unfold listText
  rw [strLen_append]
  have h1 : ("[" : Str).length = 1 := by decide +kernel
  have h2 : ("]" : Str).length = 1 := by decide +kernel
  omega
theorem dict_le (ts : List Str) : (dictText ts).length ≤ piled ts + 2 := by
  have h : (Str.join ", " ts).length ≤ piled ts := by
    cases ts with
    | nil => exact Nat.zero_le _
    | cons a r =>
      have := join_length_add (a :: r) (by simp)
      omega
  unfold dictText
  rw [strLen_append, strLen_append]
  have h1 : ("{" : Str).length = 1 := by decide +kernel
  have h2 : ("}" : Str).length = 1 := by decide +kernel
  omega
theorem name_text {n : Str} (h : isName n) : (reprText n).length ≤ 82 := by
  have := StrLaws.reprText_len n fun c hc => Nat.lt_trans (letters_ok c (h.2.2 c hc)) (by decide)
  have := h.2.1
  omega
theorem layD_len : ∀ {L : Lay}, (∀ n ∈ L.names, isName n) → (layD L).shown.length + 20 ≤ 130 * L.names.length
  | .one n o, h => by
    have h1 := name_text (h n (List.mem_singleton.mpr rfl))
    have h2 := (oD_no o).2.2.1
    have h3 : (reprText "one").length = 5 := by decide +kernel
    have h4 := tuple_le [reprText "one", reprText n, (oD o).shown]
    have e : (layD (.one n o)).shown = tupleText [reprText "one", reprText n, (oD o).shown] := rfl
    rw [e]
    rw [piled_cons, piled_cons, piled_cons, piled_nil] at h4
    show _ ≤ 130 * 1
    omega
  | .by_ k a b, h => by
    have h1 := layD_len (L := a) fun n hn => h n (List.mem_append_left _ hn)
    have h2 := layD_len (L := b) fun n hn => h n (List.mem_append_right _ hn)
    have h3 : (reprText "by").length = 4 := by decide +kernel
    have h5 : (Str.ofString (toString (k.val : Int))).length ≤ 1 := toString_length_le (by omega) (by decide) (by omega)
    have h4 := tuple_le [reprText "by", Str.ofString (toString (k.val : Int)), (layD a).shown, (layD b).shown]
    have e : (layD (.by_ k a b)).shown = tupleText [reprText "by", Str.ofString (toString (k.val : Int)), (layD a).shown, (layD b).shown] := rfl
    rw [e]
    rw [piled_cons, piled_cons, piled_cons, piled_cons, piled_nil] at h4
    show _ ≤ 130 * (a.names ++ b.names).length
    rw [List.length_append]
    omega
end Bx
set_option Elab.async false
set_option linter.all false
set_option maxRecDepth 100000
set_option maxHeartbeats 1000000
/-! BxR3: repr of what is told: the rule. -/
namespace Bx
open PySem PySem.Spec PyProof.Rows L2
abbrev keyD (q : List Str × List Laid) : PyData := .tuple (q.1.map PyData.str)
abbrev valD (q : List Str × List Laid) : PyData := .list (q.2.map fun x => layD x.paper)
abbrev entD (q : List Str × List Laid) : PyData × PyData := (keyD q, valD q)
abbrev foundD (v : Int) (L : Lay) (acc : Lists) : PyData := .tuple [.int v, layD L, .dict (acc.map entD)]
theorem dp_pap {K : PySem.W.Frag} {H : Hp} : ∀ {us : List V} {ls : List Laid}, Paired (fun v (x : Laid) => LayAt K H v x.paper) us ls → DpAll K H us (ls.map fun x => layD x.paper)
  | _, _, .nil => .nil
  | _, _, .cons r t => .cons (dp_lay r) (dp_pap t)
theorem reads_ents {X : Cx} {pins : List (Addr × Obj)} {σ : L2.St} {H H0 : Hp} {s : Shared} (I : L2.Inv X pins σ H s) : ∀ {kvs : List (List Key × V)} {xs : List (List Key × Addr × Value)} {acc : Lists}, KT H kvs xs → PaAt X.K H0 H kvs acc →
    ∃ as bs, ReadsAll s.heap (xs.map fun q => Value.ref q.2.1) (acc.map keyD) as ∧ ReadsAll s.heap (xs.map fun q => q.2.2) (acc.map valD) bs
  | _, _, _, .nil, .nil => ⟨[], [], .nil, .nil⟩
  | _, _, _, .cons h t, .cons r u => by
    obtain ⟨as, bs, k1, k2⟩ := reads_ents I t u
    obtain ⟨e1, e2, e3⟩ := h
    obtain ⟨g1, l, us, g2, _, g3, g4⟩ := r
    rw [g1, key_v] at e2
    rw [g2] at e3
    obtain ⟨a1, q1⟩ := Dp.reads I _ _ _ (.tup (SqT.of e2) (dp_strs _)) (show RelV (.ref _) (Value.ref _) from rfl)
    obtain ⟨a2, q2⟩ := Dp.reads I _ _ _ (.lst (SqL.of g3) (dp_pap g4)) e3
    exact ⟨_, _, .cons q1 k1, .cons q2 k2⟩
theorem strs_no : ∀ l : List Str, PyData.hasDictAll (l.map PyData.str) = false ∧ PyData.showableAll (l.map PyData.str) = true
  | [] => ⟨rfl, rfl⟩
  | x :: r => by
    have h := strs_no r
    simp [PyData.hasDictAll, PyData.hasDict, PyData.showableAll, PyData.showable, h.1, h.2]
theorem pap_no : ∀ l : List Laid, PyData.hasDictAll (l.map fun x => layD x.paper) = false ∧ PyData.showableAll (l.map fun x => layD x.paper) = true
  | [] => ⟨rfl, rfl⟩
  | x :: r => by
    have h := pap_no r
    have h2 := layD_no x.paper
    simp [PyData.hasDictAll, PyData.showableAll, h.1, h.2, h2.1, h2.2]
theorem keys_no : ∀ acc : Lists, PyData.hasDictAll (acc.map keyD) = false ∧ PyData.showableAll (acc.map keyD) = true
  | [] => ⟨rfl, rfl⟩
  | q :: r => by
    have h := keys_no r
    have h2 := strs_no q.1
    simp [PyData.hasDictAll, PyData.hasDict, PyData.showable, PyData.showableAll, h.1, h.2, h2.1, h2.2]
theorem vals_no : ∀ acc : Lists, PyData.hasDictAll (acc.map valD) = false ∧ PyData.showableAll (acc.map valD) = true
  | [] => ⟨rfl, rfl⟩
  | q :: r => by
    have h := vals_no r
    have h2 := pap_no q.2
    simp [PyData.hasDictAll, PyData.hasDict, PyData.showable, PyData.showableAll, h.1, h.2, h2.1, h2.2]
/-! ### how long -/
def costOf (c : List Str) : Nat := 400 + 450 * mostOf c.length
theorem strs_len : ∀ {l : List Str}, (∀ x ∈ l, isName x) → piled (PyData.shownAll (l.map PyData.str)) ≤ 84 * l.length
  | [], _ => Nat.le_refl _
  | x :: r, h => by
    have h1 := strs_len (l := r) fun y hy => h y (List.mem_cons_of_mem _ hy)
    have h2 := name_text (h x (List.mem_cons_self ..))
    show piled (reprText x :: PyData.shownAll (r.map PyData.str)) ≤ _
    rw [piled_cons, List.length_cons]
    omega
theorem pap_len {m : Nat} : ∀ {l : List Laid}, (∀ x ∈ l, x.paper.names.length ≤ m ∧ ∀ n ∈ x.paper.names, isName n) → piled (PyData.shownAll (l.map fun x => layD x.paper)) ≤ 130 * m * l.length
  | [], _ => Nat.le_refl _
  | x :: r, h => by
    have h1 := pap_len (l := r) fun y hy => h y (List.mem_cons_of_mem _ hy)
    have hx := h x (List.mem_cons_self ..)
    have h2 := layD_len hx.2
    have h3 : 130 * x.paper.names.length ≤ 130 * m := Nat.mul_le_mul_left _ hx.1
    show piled ((layD x.paper).shown :: PyData.shownAll (r.map fun x => layD x.paper)) ≤ _
    rw [piled_cons, List.length_cons, Nat.mul_add, Nat.mul_one]
    omega
theorem ents_len {S : Str → T3} : ∀ {acc : Lists}, ListsOk S acc → (∀ q ∈ acc, q.1.length ≤ 3 ∧ ∀ n ∈ q.1, isName n) → piled (PyData.shownKv (acc.map entD)) ≤ (acc.map fun q => costOf q.1).sum
  | [], _, _ => Nat.le_refl _
  | q :: r, ok, h => by
    have h1 := ents_len (acc := r) (fun y hy => ok y (List.mem_cons_of_mem _ hy)) fun y hy => h y (List.mem_cons_of_mem _ hy)
    have hq := h q (List.mem_cons_self ..)
    have oq := ok q (List.mem_cons_self ..)
    have k1 := strs_len hq.2
    have k2 := tuple_le (PyData.shownAll (q.1.map PyData.str))
    have v1 := pap_len (m := 3) (l := q.2) fun x hx => by
      have hp := (oq.1 x hx).1
      exact ⟨by rw [hp.length_eq]; exact hq.1, fun n hn => hq.2 n (hp.subset hn)⟩
    have v2 := list_le (PyData.shownAll (q.2.map fun x => layD x.paper))
    have v3 : 130 * 3 * q.2.length ≤ 130 * 3 * mostOf q.1.length := Nat.mul_le_mul_left _ oq.2
    have sep : (": " : Str).length = 2 := by decide +kernel
    have e : PyData.shownKv ((q :: r).map entD) = (tupleText (PyData.shownAll (q.1.map PyData.str)) ++ ": " ++ listText (PyData.shownAll (q.2.map fun x => layD x.paper))) :: PyData.shownKv (r.map entD) := rfl
    rw [e, piled_cons, strLen_append, strLen_append, List.map_cons, List.sum_cons, sep]
    show _ ≤ (400 + 450 * mostOf q.1.length) + (r.map fun q => costOf q.1).sum
    omega
theorem cost1 (a : Str) : costOf [a] = 850 := by
  unfold costOf
  rw [show [a].length = 1 from rfl, show mostOf 1 = 1 from rfl]
theorem cost2 (a b : Str) : costOf [a, b] = 65200 := by
  unfold costOf
  rw [show [a, b].length = 2 from rfl, show mostOf 2 = 144 from rfl]
theorem cost3 (a b c : Str) : costOf [a, b, c] = 9331600 := by
  unfold costOf
  rw [show [a, b, c].length = 3 from rfl, show mostOf 3 = 20736 from rfl]
theorem cost_all {ns : List Str} (h : ns.length ≤ 3) : ((choicesOf ns).map costOf).sum ≤ 10000000 := by
  match ns, h with
  | [], _ => exact Nat.zero_le _
  | [a], _ =>
    have e : choicesOf [a] = [[a]] := rfl
    rw [e]
    simp only [List.map_cons, List.map_nil, List.sum_cons, List.sum_nil, cost1]
    omega
  | [a, b], _ =>
    have e : choicesOf [a, b] = [[a], [b], [a, b]] := rfl
    rw [e]
    simp only [List.map_cons, List.map_nil, List.sum_cons, List.sum_nil, cost1, cost2]
    omega
  | [a, b, c], _ =>
    have e : choicesOf [a, b, c] = [[a], [b], [c], [a, b], [a, c], [b, c], [a, b, c]] := rfl
    rw [e]
    simp only [List.map_cons, List.map_nil, List.sum_cons, List.sum_nil, cost1, cost2, cost3]
    omega
theorem pap_depth : ∀ {l : List Laid}, (∀ x ∈ l, x.paper.depth ≤ 4) → PyData.depthAll (l.map fun x => layD x.paper) ≤ 6
  | [], _ => by simp [PyData.depthAll]
  | x :: r, h => by
    have h1 := pap_depth (l := r) fun y hy => h y (List.mem_cons_of_mem _ hy)
    have h2 := layD_depth x.paper
    have h3 := h x (List.mem_cons_self ..)
    simp only [List.map_cons, PyData.depthAll]
    omega
theorem ents_depth : ∀ {acc : Lists}, (∀ q ∈ acc, ∀ x ∈ q.2, x.paper.depth ≤ 4) → PyData.depthKv (acc.map entD) ≤ 7
  | [], _ => by simp [PyData.depthKv]
  | q :: r, h => by
    have h1 := ents_depth (acc := r) fun y hy => h y (List.mem_cons_of_mem _ hy)
    have h2 := pap_depth (h q (List.mem_cons_self ..))
    have h3 := strs_depth q.1
    simp only [List.map_cons, PyData.depthKv, PyData.depth]
    omega
/-! ### the rule -/
section
variable {X : Cx}
def rReprF (K : PySem.W.Frag) : List V → Hp → VK → Prop := fun vs H Q => ∃ t S ns d vp kvs i q H0, vs = [.ref t] ∧ ToldAt K H0 H S ns t d vp kvs i q ∧ ns.Nodup ∧ ns.length ≤ 3 ∧ (∀ n ∈ ns, isName n) ∧ okT q.three ∧ Q (.str (foundD q.three.vol q.paper (laidLists S ns)).shown) H
theorem cr_reprF (hg : X.A.guards = some []) (hu : X.A.units + 64 < cLine) : CallR X (.builtin "repr") (rReprF X.K) := by
  intro pins s σ H xs us Q I r h
  obtain ⟨t, S, ns, d, vp, kvs, i, q, H0, rfl, ht, hnd, h3, hnm, hok, hQ⟩ := h
  obtain rfl := Vals.ref1 r
  have okA : ListsOk S (laidLists S ns) := by
    have := upTo_ok (S := S) hnd (by omega) (choicesOf ns).length
    rwa [upTo_all] at this
  have okq := (getL_ok okA ns).1 q (List.mem_of_getElem? ht.fst.1)
  obtain ⟨its, rv, hT, _⟩ := I.tuple (SqT.of ht.tup)
  obtain ⟨w1, w2, w3, rfl⟩ := len3 (show its.length = 3 by rw [← rv.length]; rfl)
  cases rv with
  | cons r1 rt =>
    cases rt with
    | cons r2 ru =>
      cases ru with
      | cons r3 rz =>
        obtain ⟨tk1, rfl⟩ := r1
        obtain rfl : w3 = Value.ref d := r3
        obtain ⟨a2, q2⟩ := Dp.reads I _ _ _ (dp_lay ht.lay) r2
        obtain ⟨z, hsm, xs', rel, o, es, ep, ho, hx, hdat, h4, _⟩ := dt_of I.hok ht.dct
        obtain ⟨as, bs, k1, k2⟩ := reads_ents I rel ht.ents
        have dt : es.toList.map (·.key) = xs'.map fun q => Value.ref q.2.1 := by
          rw [h4, List.map_map]
          rfl
        have dv : es.toList.map (·.val) = xs'.map fun q => q.2.2 := by
          rw [h4, List.map_map]
          rfl
        have ek : ((laidLists S ns).map entD).map (·.1) = (laidLists S ns).map keyD := by
          rw [List.map_map]
          rfl
        have ev : ((laidLists S ns).map entD).map (·.2) = (laidLists S ns).map valD := by
          rw [List.map_map]
          rfl
        rw [← dt, ← ek] at k1
        rw [← dv, ← ev] at k2
        have rd : Reads s.heap (.ref d) (.dict ((laidLists S ns).map entD)) (d :: as ++ bs) := .dict ho hx.1 hdat k1 k2
        -- how long
        have keysL : ((laidLists S ns).map fun q => costOf q.1).sum ≤ 10000000 := by
          have e : (laidLists S ns).map (fun q => costOf q.1) = (choicesOf ns).map costOf := by
            rw [← full_keys S ns, List.map_map]
            rfl
          rw [e]
          exact cost_all h3
        have lenKv : piled (PyData.shownKv ((laidLists S ns).map entD)) ≤ 10000000 := Nat.le_trans (ents_len okA fun q hq => by
          have hk : q.1 ∈ choicesOf ns := by
            rw [← full_keys S ns]
            exact List.mem_map.mpr ⟨q, hq, rfl⟩
          obtain ⟨_, sub⟩ := choices_mem.mp hk
          exact ⟨Nat.le_trans sub.length_le h3, fun n hn => hnm n (sub.subset hn)⟩) keysL
        have lenD := dict_le (PyData.shownKv ((laidLists S ns).map entD))
        have lenL := layD_len (L := q.paper) fun n hn => hnm n (okq.1.subset hn)
        have lq := okq.1.length_eq
        obtain ⟨v1, v2⟩ := vol_fits hok
        have lenV : (Str.ofString (toString q.three.vol)).length ≤ 16 := toString_length_le (by omega) (by decide) (by omega)
        have lenT := tuple_le [Str.ofString (toString q.three.vol), (layD q.paper).shown, dictText (PyData.shownKv ((laidLists S ns).map entD))]
        rw [piled_cons, piled_cons, piled_cons, piled_nil] at lenT
        have sl := sizeLine_eq
        have hzD : (dictText (PyData.shownKv ((laidLists S ns).map entD))).length ≤ sizeLine := by omega
        have hzT : (tupleText [Str.ofString (toString q.three.vol), (layD q.paper).shown, dictText (PyData.shownKv ((laidLists S ns).map entD))]).length ≤ sizeLine := by omega
        -- the parts
        obtain ⟨b1, hb1, r1⟩ := ReprAllK.of_readsAll (prog := X.prog) (w := X.w) k1 (by rw [ek]; exact (keys_no _).2) (fun hx => by rw [ek, (keys_no _).1] at hx; cases hx) (fun t ht => let ⟨p, hp, hl⟩ := PyData.shownKv_key_le _ t ht; Nat.le_trans hl (Nat.le_trans (dictText_mem_le hp) hzD))
        obtain ⟨b2, hb2, r2'⟩ := ReprAllK.of_readsAll (prog := X.prog) (w := X.w) k2 (by rw [ev]; exact (vals_no _).2) (fun hx => by rw [ev, (vals_no _).1] at hx; cases hx) (fun t ht => let ⟨p, hp, hl⟩ := PyData.shownKv_val_le _ t ht; Nat.le_trans hl (Nat.le_trans (dictText_mem_le hp) hzD))
        have hb : ReadAtMost s.heap (PyData.depthKv ((laidLists S ns).map entD)) (b1 ++ b2) := (hb1.mono (PyData.depthAll_keys_le _)).append (hb2.mono (PyData.depthAll_vals_le _))
        have hna : d ∉ b1 ++ b2 := not_mem_of_deeper rd (by simp only [PyData.depth]; omega) hb
        have reprD := ReprK.dict (prog := X.prog) (w := X.w) ho hx.1 hdat hsm hna (ReprEntriesK.of_two es.toList _ _
          (r1.more_le (fun b hb => List.mem_append_left _ hb) (PyData.depthAll_keys_le _)) (r2'.more_le (fun b hb => List.mem_append_right _ hb) (PyData.depthAll_vals_le _)))
        rw [← PyData.shownKv_eq] at reprD
        obtain ⟨b3, hb3, r3'⟩ := ReprAllK.of_readsAll (prog := X.prog) (w := X.w) (.cons q2 .nil : ReadsAll s.heap [w2] [layD q.paper] _) (by simp [PyData.showableAll, (layD_no q.paper).2]) (fun hx => by simp [PyData.hasDictAll, (layD_no q.paper).1] at hx) (fun t ht => by
          rw [List.mem_singleton.mp (show t ∈ [(layD q.paper).shown] from ht)]
          omega)
        have dep : PyData.depthKv ((laidLists S ns).map entD) ≤ 7 := ents_depth fun q hq x hx => by
          have hp := (okA q hq).1 x hx
          have hk : q.1 ∈ choicesOf ns := by
            rw [← full_keys S ns]
            exact List.mem_map.mpr ⟨q, hq, rfl⟩
          have l1 := (choices_mem.mp hk).2.length_le
          have l2 := hp.1.length_eq
          have l3 := Lay.depth_lt x.paper
          omega
        have depL := layD_depth q.paper
        have dl := Lay.depth_lt q.paper
        obtain ⟨o1, ho1, hc1, n1, hd1⟩ := hT
        have rt : Reads s.heap (.ref t) (foundD q.three.vol q.paper (laidLists S ns)) _ := .tuple ho1 hc1 hd1 (.cons (.int _ _) (.cons q2 (.cons rd .nil)))
        have hbd : ReadAtMost s.heap (PyData.depth (.dict ((laidLists S ns).map entD))) (d :: (b1 ++ b2)) := ReadAtMost.cons rd (by simp only [PyData.depth]; omega) hb
        have e3 : PyData.depthAll [layD q.paper] = (layD q.paper).depth := by simp [PyData.depthAll]
        rw [e3] at hb3 r3'
        obtain ⟨N, eN⟩ : ∃ N, N = PyData.depthAll [.int q.three.vol, layD q.paper, .dict ((laidLists S ns).map entD)] := ⟨_, rfl⟩
        have eN2 : N = max (layD q.paper).depth (PyData.depth (.dict ((laidLists S ns).map entD))) := by
          rw [eN]
          simp only [PyData.depthAll, PyData.depth]
          omega
        have dD : PyData.depth (.dict ((laidLists S ns).map entD)) ≤ 8 := by
          simp only [PyData.depth]
          omega
        have eDep : (PyData.depth (.dict ((laidLists S ns).map entD))) = PyData.depthKv ((laidLists S ns).map entD) + 1 := by simp only [PyData.depth]
        have hba : ReadAtMost s.heap N (b3 ++ (d :: (b1 ++ b2))) := (hb3.mono (by omega)).append (hbd.mono (by omega))
        have hna2 : t ∉ b3 ++ (d :: (b1 ++ b2)) := not_mem_of_deeper rt (by
          show N < PyData.depthAll [.int q.three.vol, layD q.paper, .dict ((laidLists S ns).map entD)] + 1
          omega) hba
        have hP : ReprK X.prog X.w b3 s.heap (layD q.paper).depth w2 (layD q.paper).shown := by
          cases r3' with
          | cons h _ => exact h
        have hAll : ReprAllK X.prog X.w (b3 ++ (d :: (b1 ++ b2))) s.heap N [.int q.three.vol tk1, w2, .ref d] [Str.ofString (toString q.three.vol), (layD q.paper).shown, dictText (PyData.shownKv ((laidLists S ns).map entD))] :=
          .cons (ReprK.of_is (ReprIs.int tk1 (log_small (by omega))) _ _ _) (.cons ((hP.more fun b hb => List.mem_append_left _ hb).level_le (by omega)) (.cons ((reprD.more fun b hb => List.mem_append_right _ hb).level_le (by omega)) .nil))
        refine call_repr_slot (by omega) ⟨o1, ho1, hc1⟩ F.slot_tuple_repr (call_tuple_reprK ho1 hc1 hd1 hna2 hAll hg (fun b _ => Clear.nil b) (by show X.A.units + 1 + (N + 1) < cLine; omega) (fun _ _ e => e) (fun h' u tk hk => ⟨_, _, rfl, ?_⟩) hzT)
        exact ⟨V.str _, H, I.kept (t' := tk) hk, ⟨_, rfl⟩, hQ⟩
end
end Bx
set_option Elab.async false
set_option linter.all false
set_option maxRecDepth 100000
set_option maxHeartbeats 1000000
/-! BxR4: a def that is run by the caller of the laws alone (so what guards repr is known), and a law's end over it. -/
namespace Bx
open PySem PySem.Spec PyProof.Rows L2
/-- the law's def, called from without -/
structure FnC (P : Program) (w : World) (K : PySem.W.Frag) (mg : Str → Option Value) (base : Heap) (k : Nat) (f : Addr) (fd : FuncData) (ps : List Str) (sp : Sp) : Prop where
  len : ∀ vs H Q E, sp vs H Q E → vs.length = ps.length
  run : ∀ (s : Shared) (H : Hp) (args : Args) (us : List Value) (vs : List V) (Q : VK) (E : XK), Room k callerA → Env0 P w K mg base callerA [] s H → BindsTo s fd args (ps.zip us) → Vals vs us → sp vs H Q E →
    codeAny (model P w) callerA (.call (.ref f) args) (CR CX0 [] P w H s Q E) s
section
variable {P : Program} {w : World} {K : PySem.W.Frag} {mg : Str → Option Value} {base : Heap} {x qual : Str} {params : Arguments} {body : List Stmt} {scope : Scope} {f : Addr} {fd : FuncData}
theorem okC {N ps : List Str} {k : Nat} {sp : Sp} (F : FunD K x qual params body scope [] [] f fd) (S : FnScope N ps scope) (len : ∀ vs H Q E, sp vs H Q E → vs.length = ps.length)
    (hb : ∀ (cdv : Value) (s : Shared) (H : Hp) (vs : List V) (Q : VK) (E : XK), Room k (callerA.deeper (envOfC qual scope s.heap.objs.size f cdv)) → sp vs H Q E →
      ∃ t, PSs (cxOf CX0 P w K mg base N qual scope f cdv callerA [] s H E) body t ∧ t { nx := fun _ H' => Q .non H', rt := Q } (start N vs) H) : FnC P w K mg base (k + 1) f fd ps sp := by
  obtain ⟨oc, od, dV, kV, doc, pm, an, cdv, ct, osl, rfl, lk, hcd, _, _⟩ := F.ex
  refine ⟨len, fun s H args us vs Q E hr e0 bnd rv hsp => ?_⟩
  have hl := len _ _ _ _ hsp
  have old : ∀ b o, base.get? b = some o → s.heap.get? b = some o := fun b o e => (e0.bs b o e).1
  have KX : K.In s.heap := e0.mod.kin.keeps old
  refine codeAny_call_function hr.depth (KX _ _ lk) rfl S.co S.gen rfl (PySem.W.codeRec_of KX hcd) (bnd _ _ _ _ ?_)
  refine wpAny_newFunctionEnv_cells S.kind (fun y hy => ?_) fun env he s1 z => ?_
  · rcases S.par y.1 (List.of_mem_zip (show (y.1, y.2) ∈ ps.zip us from hy)).1 with q | q
    · exact .inl q
    · exact .inr ⟨q, PySem.W.cellsFrom_some _ _ _ (.inl q)⟩
  · subst he
    refine ⟨(e0.mod.nolimit.keeps old).keeps z.toInCall.keep, codeAny_func ?_⟩
    obtain ⟨t, ht, hq⟩ := hb cdv s H vs Q E (hr.deeper _) hsp
    refine wpAny_mono (ht.run [] s1 (start N vs) H _ (inv_start S hr.hd e0 hl rv z) hq) (fun fl s' hs => ?_) fun e s' hs => hs
    match fl, hs with
    | .ret u, ⟨v, σ', H', J, r, q⟩ => exact ⟨v, H', J.os, J.bare, J.base, J.hok, r, q⟩
    | .next, ⟨σ', H', J, q⟩ => exact ⟨.non, H', J.os, J.bare, J.base, J.hok, rfl, q⟩
    | .brk, ⟨_, _, _, q⟩ => exact q.elim
    | .cont, ⟨_, _, _, q⟩ => exact q.elim
/-- from a tracked heap that holds nothing but the script -/
theorem callH {mb : Str → Option Value} {k : Nat} {fa a : Addr} {y : Str} {sp : Sp} {s : Shared} {vs : List Value} {H : Hp}
    (KX : K.In s.heap) (hns : s.heap.Ns mainGlobals mg) (hb : s.heap.Ns builtinsNs mb) (hbb : ∀ z : Str, z ≠ "__name__" → mb z = bootBuiltins z) (hlim : s.heap.NoLimit) (hg : s.gens = #[])
    (ha : s.heap.get? a = some { cls := .type "list", data := .seq vs.toArray }) (hr : Room k callerA)
    (F : ∀ base : Heap, K.In base → base.Ns mainGlobals mg → FnC P w K mg base k fa fd [y] sp) (hbind : ∀ (s : Shared) (u : Value), BindsTo s fd ⟨[u], []⟩ [(y, u)])
    (hsp : sp [.ref a] H (fun v _ => v = .bl true) fun _ _ _ => False) (hCX : ∀ e s', CX0 [] H s (fun _ _ _ => False) e s' → False)
    (hO : Only H) (hok : HOk P w H s.heap) (one : ∀ b, H b ≠ none → b = a ∧ K.lookup a = none) :
    codeAny (model P w) callerA (.call (.ref fa) ⟨[.ref a], []⟩) (fun r s' => r = .ok (.ret (.bool true)) ∧ OldK s.heap s'.heap ∧ s'.os = s.os ∧ AllBare s'.gens) s := by
  have free : ∀ {b : Addr} {o : Obj}, s.heap.get? b = some o → (b = a → False) → H b = none := fun {b o} e n => by
    cases q : H b with
    | none => rfl
    | some u => exact (n (one b (by rw [q]; simp)).1).elim
  have ns : ∀ {b : Addr} {m : Str → Option Value}, s.heap.Ns b m → (hidT s.heap H).Ns b m := fun {b m} ⟨o, es, ep, e, d, r⟩ => ⟨o, es, ep, hidT_get e (free e fun z => by
    rw [z, ha] at e
    cases e
    have d' : Data.seq vs.toArray _ = Data.dict es ep := d
    cases d'), d, r⟩
  have inK : K.In (hidT s.heap H) := fun b o e => hidT_get (KX b o e) (by
    cases q : H b with
    | none => rfl
    | some u =>
      obtain ⟨z, n⟩ := one b (by rw [q]; simp)
      rw [z, n] at e
      cases e)
  obtain ⟨mc, lim1, lim2⟩ := hlim
  have e0 : Env0 P w K mg (hidT s.heap H) callerA [] s H := ⟨rfl, ⟨inK, ns hns, ⟨mb, ns hb, hbb⟩, ⟨mc, ns lim1, lim2⟩⟩, fun b o e => of_hidT e, Nat.le_of_eq (hidT_size _ _), trivial, fun b hb => absurd (show b ∈ ([] : List Addr) from hb) (by simp), hok, .of_eq hg⟩
  refine codeAny_mono ((F _ inK (ns hns)).run s H ⟨[.ref a], []⟩ [.ref a] [.ref a] _ _ hr e0 (hbind s (.ref a)) (.cons rfl .nil) hsp) fun r s' h => ?_
  match r, h with
  | .error e, h => exact (hCX e s' h).elim
  | .ok (.ret u), ⟨v, H', os, bare, un, hok', rv, q⟩ =>
    obtain rfl : v = .bl true := q
    obtain rfl : u = Value.bool true := rv
    refine ⟨rfl, OldK.of_keep fun b o e => ?_, os, bare⟩
    cases q : H b with
    | none => exact un.keep b o e q (fun z => absurd (show b ∈ ([] : List Addr) from z) (by simp)) (by simp)
    | some u =>
      rcases hO b with z | ⟨ob, xs, z⟩
      · rw [q] at z
        cases z
      · obtain ⟨e1, _⟩ := hok b _ z
        obtain ⟨e2, _⟩ := hok' b _ (un.frzs b ob _ z)
        rw [e] at e1
        cases e1
        exact e2
/-- the law's def, called on the script -/
theorem callC {mb : Str → Option Value} {k : Nat} {fa a : Addr} {y : Str} {sp : Sp} {s : Shared} {vs : List Value} {ns : List Int}
    (KX : K.In s.heap) (hns : s.heap.Ns mainGlobals mg) (hb : s.heap.Ns builtinsNs mb) (hbb : ∀ z : Str, z ≠ "__name__" → mb z = bootBuiltins z) (hlim : s.heap.NoLimit) (hg : s.gens = #[])
    (ha : s.heap.get? a = some { cls := .type "list", data := .seq vs.toArray }) (hi : IntsAre vs ns) (hl : ns.length ≤ sizeLine) (hr : Room k callerA)
    (F : ∀ base : Heap, K.In base → base.Ns mainGlobals mg → FnC P w K mg base k fa fd [y] sp) (hbind : ∀ (s : Shared) (u : Value), BindsTo s fd ⟨[u], []⟩ [(y, u)])
    (hsp : ∀ H : Hp, Only H → SqL K H a (ns.map V.int) → sp [.ref a] H (fun v _ => v = .bl true) fun _ _ _ => False) (hCX : ∀ H e s', CX0 [] H s (fun _ _ _ => False) e s' → False) :
    codeAny (model P w) callerA (.call (.ref fa) ⟨[.ref a], []⟩) (fun r s' => r = .ok (.ret (.bool true)) ∧ OldK s.heap s'.heap ∧ s'.os = s.os ∧ AllBare s'.gens) s := by
  have rv := vals_ints hi
  cases hk : K.lookup a with
  | some o =>
    have e := KX a o hk
    rw [ha] at e
    cases e
    have o0 : Only fun _ => none := fun _ => .inl rfl
    exact callH KX hns hb hbb hlim hg ha hr F hbind (hsp _ o0 (.inr ⟨_, vs.toArray, _, hk, rfl, rfl, rfl, by rw [List.size_toArray, hi.length]; exact hl, by simpa using rv⟩)) (hCX _) o0 (fun b u z => nomatch (show (none : Option HO) = some u from z)) fun b z => (z rfl).elim
  | none =>
    let H : Hp := fun b => if b = a then some (.frz { cls := .type "list", data := .seq vs.toArray } (.lst (ns.map V.int))) else none
    have yes : H a = some (.frz { cls := .type "list", data := .seq vs.toArray } (.lst (ns.map V.int))) := if_pos rfl
    have no : ∀ b, b ≠ a → H b = none := fun b n => if_neg n
    have o0 : Only H := fun b => by
      by_cases e : b = a
      · rw [e]
        exact .inr ⟨_, _, yes⟩
      · exact .inl (no b e)
    refine callH KX hns hb hbb hlim hg ha hr F hbind (hsp H o0 (.inl (.inr ⟨_, yes⟩))) (hCX H) o0 (fun b u z => ?_) fun b z => ?_
    · by_cases e : b = a
      · rw [e, yes] at z
        cases z
        rw [e]
        exact ⟨ha, by rw [List.length_map]; exact hl, vs, _, rv, ha⟩
      · rw [no b e] at z
        cases z
    · by_cases e : b = a
      · exact ⟨e, hk⟩
      · exact (z (no b e)).elim
end
/-- a law by its def's promise to the caller alone -/
theorem walkC {l : PySem.W.OpenLaw} {n k : Nat} {q : Program} {loose : List Str} {XP : (Str → Option Value) → Heap → Prop} {YP : World → Heap → Prop} {d : DefRec} {x : Str}
    (hn : l.most = some n) (hn2 : n ≤ sizeLine) (hdf : d.params.defaults = []) (hr : Room k callerA)
    (F : ∀ (w : World) (mg : Str → Option Value) (fa : Addr) (h : Heap), YP w h → h.Ns mainGlobals mg → mg d.name = some (.ref fa) →
      ∃ (K : PySem.W.Frag) (fd : FuncData) (sp : Sp), K.In h ∧ (∀ (s : Shared) (u : Value), BindsTo s fd ⟨[u], []⟩ [(x, u)]) ∧
        (∀ (H : Hp) (a : Addr) (ns : List Int), ns.length ≤ n → Only H → SqL K H a (ns.map V.int) → sp [.ref a] H (fun v _ => v = .bl true) fun _ _ _ => False) ∧
        ∀ base : Heap, K.In base → base.Ns mainGlobals mg → FnC l.prog w K mg base k fa fd [x] sp)
    (hCX : ∀ (H : Hp) (s : Shared) (e : Value) (s' : Shared), CX0 [] H s (fun _ _ _ => False) e s' → False) :
    PySem.W.WalkO q loose XP YP l.row.toRowW d [] (fun f vs => PySem.call f vs) := by
  refine Att.attach_call hn hdf fun w s₀ s₁ mg mb fa o pm cd doc a vs ns G Y ho hd hcd hmg hobj hints hlen hg => ?_
  obtain ⟨K, fd, sp, KX, hb, hsp, hF⟩ := F w mg fa _ Y G.T.g hmg
  exact callC KX G.T.g G.T.b G.T.builtins G.T.nolimit hg hobj hints (Nat.le_trans hlen hn2) hr hF hb (fun H hO hS => hsp H a ns hlen hO hS) fun H e s' => hCX H s₁ e s'
end Bx
set_option Elab.async false
set_option linter.all false
set_option maxRecDepth 100000
set_option maxHeartbeats 1000000
/-! BxR5: turned and called otherwise: the same least volume. -/
namespace Bx
open PySem PySem.Spec PyProof.Rows L2
theorem oSolve : ∀ o p : Fin 6, ∃ r, oTurn o r = p := by decide +kernel
theorem lay_there {S S' : Str → T3} {C : Str → Str} {ns : List Str} (h : ∀ n ∈ ns, ∃ o, S' (C n) = (S n).turn o) : ∀ L : Lay, (∀ n ∈ L.names, n ∈ ns) → ∃ L' : Lay, L'.names = L.names.map C ∧ L'.span S' = L.span S
  | .one n p, hn => by
    obtain ⟨o, e⟩ := h n (hn n (List.mem_singleton.mpr rfl))
    obtain ⟨r, hr⟩ := oSolve o p
    refine ⟨.one (C n) r, rfl, ?_⟩
    show (S' (C n)).turn r = (S n).turn p
    rw [e, ← turn_turn, hr]
  | .by_ k a b, hn => by
    obtain ⟨a', h1, h2⟩ := lay_there h a fun n hx => hn n (List.mem_append_left _ hx)
    obtain ⟨b', h3, h4⟩ := lay_there h b fun n hx => hn n (List.mem_append_right _ hx)
    refine ⟨.by_ k a' b', ?_, ?_⟩
    · show a'.names ++ b'.names = (a.names ++ b.names).map C
      rw [h1, h3, List.map_append]
    · show beside (a'.span S') (b'.span S') k = beside (a.span S) (b.span S) k
      rw [h2, h4]
theorem lay_back {S S' : Str → T3} {C : Str → Str} {ns : List Str} (h : ∀ n ∈ ns, ∃ o, S' (C n) = (S n).turn o) : ∀ L : Lay, (∀ m ∈ L.names, ∃ n ∈ ns, C n = m) → ∃ L' : Lay, L'.names.map C = L.names ∧ (∀ n ∈ L'.names, n ∈ ns) ∧ L'.span S = L.span S'
  | .one m p, hn => by
    obtain ⟨n, hn1, rfl⟩ := hn m (List.mem_singleton.mpr rfl)
    obtain ⟨o, e⟩ := h n hn1
    refine ⟨.one n (oTurn o p), rfl, fun x hx => by rw [List.mem_singleton.mp hx]; exact hn1, ?_⟩
    show (S n).turn (oTurn o p) = (S' (C n)).turn p
    rw [e, turn_turn]
  | .by_ k a b, hn => by
    obtain ⟨a', h1, h1', h2⟩ := lay_back h a fun n hx => hn n (List.mem_append_left _ hx)
    obtain ⟨b', h3, h3', h4⟩ := lay_back h b fun n hx => hn n (List.mem_append_right _ hx)
    refine ⟨.by_ k a' b', ?_, ?_, ?_⟩
    · show (a'.names ++ b'.names).map C = a.names ++ b.names
      rw [List.map_append, h1, h3]
    · intro n hn
      rcases List.mem_append.mp (show n ∈ a'.names ++ b'.names from hn) with z | z
      · exact h1' n z
      · exact h3' n z
    · show beside (a'.span S) (b'.span S) k = beside (a.span S') (b.span S') k
      rw [h2, h4]
theorem perm_back {C : Str → Str} {a b ns : List Str} (inj : ∀ m ∈ ns, ∀ n ∈ ns, C m = C n → m = n) (ha : ∀ n ∈ a, n ∈ ns) (hb : ∀ n ∈ b, n ∈ ns) (bd : b.Nodup) (h : (a.map C).Perm (b.map C)) : a.Perm b := by
  have bd' : (b.map C).Nodup := by
    rw [List.nodup_iff_pairwise_ne, List.pairwise_map]
    exact List.Pairwise.imp_of_mem (fun {x y} hx hy hne e => hne (inj x (hb x hx) y (hb y hy) e)) (List.nodup_iff_pairwise_ne.mp bd)
  have ad' := h.nodup_iff.mpr bd'
  have ad : a.Nodup := by
    rw [List.nodup_iff_pairwise_ne, List.pairwise_map] at ad'
    rw [List.nodup_iff_pairwise_ne]
    exact List.Pairwise.imp (fun {x y} hne e => hne (congrArg C e)) ad'
  refine (List.perm_ext_iff_of_nodup ad bd).mpr fun x => ⟨fun hx => ?_, fun hx => ?_⟩
  · obtain ⟨y, hy, e⟩ := List.mem_map.mp (h.subset (List.mem_map.mpr ⟨x, hx, rfl⟩))
    rw [← inj y (hb y hy) x (ha x hx) e]
    exact hy
  · obtain ⟨y, hy, e⟩ := List.mem_map.mp (h.symm.subset (List.mem_map.mpr ⟨x, hx, rfl⟩))
    rw [← inj y (ha y hy) x (hb x hx) e]
    exact hy
theorem least_same {S S' : Str → T3} {C : Str → Str} {ns ms hs : List Str} {ps ps' : List Par} (hg : GoodNames ps S ns) (hg' : GoodNames ps' S' (ms.map C)) (hm : ms.Perm ns) (hin : ∀ n ∈ ns, n ∈ hs) (inj : ∀ m ∈ hs, ∀ n ∈ hs, C m = C n → m = n)
    (h : ∀ n ∈ hs, ∃ o, S' (C n) = (S n).turn o) (hok : ∀ n ∈ hs, okT (S n)) {i j : Nat} {q r : Laid} (hf : IsFirst (getL (laidLists S ns) ns) i q) (hf' : IsFirst (getL (laidLists S' (ms.map C)) (ms.map C)) j r) : r.three.vol = q.three.vol := by
  have okA := upTo_ok (S := S) hg.nd hg.few (choicesOf ns).length
  rw [upTo_all] at okA
  have okB := upTo_ok (S := S') hg'.nd hg'.few (choicesOf (ms.map C)).length
  rw [upTo_all] at okB
  have oq := (getL_ok okA ns).1 q (List.mem_of_getElem? hf.1)
  have or_ := (getL_ok okB _).1 r (List.mem_of_getElem? hf'.1)
  have h' : ∀ n ∈ ns, ∃ o, S' (C n) = (S n).turn o := fun n hn => h n (hin n hn)
  have ok1 : ∀ n ∈ ns, okT (S n) := fun n hn => hok n (hin n hn)
  have ok2 : ∀ n ∈ ms.map C, okT (S' n) := fun n hn => by
    obtain ⟨m, hm1, rfl⟩ := List.mem_map.mp hn
    obtain ⟨o, e⟩ := h' m (hm.subset hm1)
    rw [e]
    exact (ok1 m (hm.subset hm1)).turn o
  obtain ⟨L1, a1, a2⟩ := lay_there h' q.paper fun n hn => oq.1.subset hn
  have p1 : L1.names.Perm (ms.map C) := by
    rw [a1]
    exact (oq.1.map C).trans (hm.symm.map C)
  have le1 := least_all hg' ok2 hf' p1
  rw [a2, ← oq.2] at le1
  obtain ⟨L2, b1, b2, b3⟩ := lay_back h' r.paper fun m hm1 => by
    obtain ⟨x, hx, e⟩ := List.mem_map.mp (or_.1.subset hm1)
    exact ⟨x, hm.subset hx, e⟩
  have p2 : L2.names.Perm ns := perm_back (fun m hm n hn => inj m (hin m hm) n (hin n hn)) b2 (fun n hn => hn) hg.nd (by
    rw [b1]
    exact or_.1.trans (hm.map C))
  have le2 := least_all hg ok1 hf p2
  rw [b3, ← or_.2] at le2
  omega
end Bx
set_option Elab.async false
set_option linter.all false
set_option maxRecDepth 100000
set_option maxHeartbeats 1000000
/-! BxR6: good names of small books. -/
namespace Bx
open PySem PySem.Spec PyProof.Rows L2
theorem desc_get (t : T3) : ∃ k, t.desc.x = t.get k := by
  obtain ⟨o, e⟩ := desc_is_turn t
  exact ⟨oAt o 0, by rw [e]; rfl⟩
theorem small_ok {S : Str → T3} {hs : List Str} {m : Nat} (h : SmallS S hs m) (hm : 1 ≤ m) {n : Str} (hn : n ∈ hs) : okT (S n) := okT_of fun k => by
  obtain ⟨a, b⟩ := h n hn k
  refine ⟨a, ?_⟩
  have c : (S n).get k * 1 ≤ (S n).get k * (m : Int) := Int.mul_le_mul_of_nonneg_left (by omega) (by omega)
  omega
theorem small_sum {S : Str → T3} {hs : List Str} {m : Nat} (h : SmallS S hs m) : ∀ {cs : List Str}, (∀ n ∈ cs, n ∈ hs) → ((cs.map fun n => (S n).desc.x).sum) * (m : Int) ≤ 100000 * (cs.length : Int)
  | [], _ => by simp
  | n :: r, hc => by
    have ih := small_sum h (cs := r) fun x hx => hc x (List.mem_cons_of_mem _ hx)
    obtain ⟨k, e⟩ := desc_get (S n)
    have h1 := (h n (hc n (List.mem_cons_self ..)) k).2
    rw [← e] at h1
    rw [List.map_cons, List.sum_cons, Int.add_mul, List.length_cons]
    omega
theorem good_of {S : Str → T3} {hs cs : List Str} {m : Nat} {ps : List Par} (h : SmallS S hs m) (hc : ∀ n ∈ cs, n ∈ hs) (hp : ∀ n ∈ hs, n ∈ pNames ps) (nd : cs.Nodup) (h1 : 1 ≤ cs.length) (h2 : cs.length ≤ m) (h4 : m ≤ 4) : GoodNames ps S cs := by
  refine ⟨h1, by omega, nd, fun n hn => hp n (hc n hn), ?_⟩
  have s := small_sum h hc
  generalize (cs.map fun n => (S n).desc.x).sum = z at s
  rcases (show m = 1 ∨ m = 2 ∨ m = 3 ∨ m = 4 by omega) with e | e | e | e <;> rw [e] at s <;> omega
theorem small_turn {S S' : Str → T3} {hs : List Str} {m : Nat} {C : Str → Str} (h : SmallS S hs m) (k : ∀ n ∈ hs, ∃ o, S' (C n) = (S n).turn o) : SmallS S' (hs.map C) m := fun x hx j => by
  obtain ⟨n, hn, rfl⟩ := List.mem_map.mp hx
  obtain ⟨o, e⟩ := k n hn
  rw [e, get_turn]
  exact h n hn _
theorem small_put {S S2 : Str → T3} {hs : List Str} {m : Nat} {n : Str} (h : SmallS S hs m) (k : SmallS S2 hs m) (hn : n ∈ hs) : SmallS (putS S n (S2 n)) hs m := fun x hx j => by
  unfold putS
  by_cases e : x = n
  · rw [if_pos e]
    exact k n hn j
  · rw [if_neg e]
    exact h x hx j
theorem same_sm {C H H' : Hp} {q : Addr} (s : Same C H) (n : C q = none) (t : Sm [q] H H') : Same C H' := fun b u z => t b u (fun m => by
  rw [List.mem_singleton.mp m, n] at z
  cases z) (s b u z)
end Bx
set_option Elab.async false
set_option linter.all false
set_option maxRecDepth 100000
set_option maxHeartbeats 4000000
/-! BxY14: the law. -/
namespace Bx
open PySem PySem.Spec PyProof.Rows L2
section
variable {P : Program} {w : World} {K : PySem.W.Frag} {mg : Str → Option Value} {base : Heap}
def spLaw (K : PySem.W.Frag) : Sp := fun vs H Q _ => ∃ l xs, vs = [.ref l] ∧ SqL K H l ((xs : List Int).map V.int) ∧ xs.length ≤ 63 ∧ ∀ H', Q (.bl true) H'
theorem sc_law : FnScope ["_law_script", "_law_k", "_law_purse_here", "_law_many", "_law_held_here", "_law_names_here", "_law_book_here", "_law_twin", "_law_kept", "_law_found", "_law_some", "_law_other", "_law_called", "_law_others", "_law_second", "_law_due"] ["_law_script"] (defScope s_law) := ⟨rfl, rfl, rfl, by decide +kernel, rfl, by decide +kernel, by decide +kernel⟩
theorem F_law (T : Env w K mg) {fd : FuncData} (F : FunD K "law" "law" (defArgs s_law) (defBody s_law) (defScope s_law) [] [] (He.fAd K ("law", none)) fd) : FnC P w K mg base 16 (He.fAd K ("law", none)) fd ["_law_script"] (spLaw K) := by
  have F__law_cell := F__law_cell (P := P) (base := base) T
  have F__law_purse := F__law_purse (P := P) (base := base) T
  have F__law_take := F__law_take (P := P) (base := base) T
  have F__law_names := F__law_names (P := P) (base := base) T
  have F__law_picked := F__law_picked (P := P) (base := base) T
  have F__law_book := F__law_book (P := P) (base := base) T
  have F__law_heap := F__law_heap (P := P) (base := base) T
  have F__law_asked := F__law_asked (P := P) (base := base) T
  have F__law_first_right := F__law_first_right (P := P) (base := base) T
  have F__law_right := F__law_right (P := P) (base := base) T
  have F_least_bundle := F_least_bundle (P := P) (base := base) T
  have F__law_alike := F__law_alike (P := P) (base := base) T
  have F__law_replaced := F__law_replaced (P := P) (base := base) T
  have F_Heap_names := F_Heap_names (P := P) (base := base) T
  refine okC F sc_law (fun vs H Q E h => ?_) (fun cdv s H vs Q E hr h => ?_)
  · obtain ⟨l, xs, rfl, _⟩ := h
    rfl
  · obtain ⟨sl, zs, rfl, hsl, hz, k⟩ := h
    refine ⟨_, PSs.nox (pss_cons (ps_for PassesOwn.never rfl (pi_range1 rfl T.free_range (pa_cons (pe_callB (call_max2 rfl) (by rfl) T.free_max (by decide +kernel) (pa_cons pe_int (pa_cons (pe_callB (call_min2 rfl) (by rfl) T.free_min (by decide +kernel) (pa_cons pe_int (pa_cons (pe_callB call_len_seq (by rfl) T.free_len (by decide +kernel) (pa_cons (pv 0) pa_nil)) pa_nil))) pa_nil))) pa_nil)) (pg_name (i := 1) sc_law.nd rfl (Or.inl rfl)) (pss_cons (ps_set (i := 2) sc_law.nd rfl (Or.inl rfl) (pe_fx F__law_purse (hr.mono (by decide)) rfl (pa_cons (pe_fx F__law_cell (hr.mono (by decide)) rfl (pa_cons (pv 0) (pa_cons (pv 1) pa_nil))) pa_nil))) (C8.pss_cut (ps_set (i := 3) sc_law.nd rfl (Or.inl rfl) (pe_op op_add pe_int (pe_fx F__law_take (hr.mono (by decide)) rfl (pa_cons (pv 2) (pa_cons (pe_ifExp (pt_cmpR op_eq (pv 1) pe_int (nomark _)) pe_int pe_int) pa_nil))))) (C8.pss_cut (ps_set (i := 4) sc_law.nd rfl (Or.inl rfl) (pe_fx F__law_names (hr.mono (by decide)) rfl (pa_cons (pv 2) (pa_cons (pe_op op_add pe_int (pe_ix ix_list (pe_lst (pa_cons pe_int (pa_cons (pe_fx F__law_take (hr.mono (by decide)) rfl (pa_cons (pv 2) (pa_cons pe_int pa_nil))) pa_nil))) (pe_fx F__law_take (hr.mono (by decide)) rfl (pa_cons (pv 2) (pa_cons pe_int pa_nil))) (fun _ _ => rfl))) pa_nil)))) (pss_cons (ps_set (i := 5) sc_law.nd rfl (Or.inl rfl) (pe_fx F__law_picked (hr.mono (by decide)) rfl (pa_cons (pv 2) (pa_cons (pv 4) (pa_cons (pv 3) pa_nil))))) (pss_cons (ps_par (by rfl) sc_law.nd (i := 6) (j := 7) rfl rfl (by decide) rfl rfl (pa_cons (pe_fx F__law_book (hr.mono (by decide)) rfl (pa_cons (pv 2) (pa_cons (pv 4) (pa_cons (pv 5) pa_nil)))) (pa_cons (pe_fx F__law_book (hr.mono (by decide)) rfl (pa_cons (pv 2) (pa_cons (pv 4) (pa_cons (pv 5) pa_nil)))) pa_nil)) (by rfl)) (pss_cons (ps_set (i := 8) sc_law.nd rfl (Or.inl rfl) (pe_fx F__law_heap (hr.mono (by decide)) rfl (pa_cons (pv 2) (pa_cons (pv 6) pa_nil)))) (pss_cons (ps_set (i := 9) sc_law.nd rfl (Or.inl rfl) (pe_fx F__law_asked (hr.mono (by decide)) rfl (pa_cons (pv 8) (pa_cons (pv 5) pa_nil)))) (pss_cons (ps_if (pt_not (pt_val (pe_fx F__law_first_right (hr.mono (by decide)) rfl (pa_cons (pv 2) (pa_cons (pv 8) (pa_cons (pv 6) (pa_cons (pv 5) (pa_cons (pv 9) pa_nil)))))))) (pss_one (ps_ret pe_bl)) pss_nil) (pss_cons (ps_for PassesOwn.never rfl (pi_tup (pe_tup (pa_cons (pe_fx F__law_picked (hr.mono (by decide)) rfl (pa_cons (pv 2) (pa_cons (pv 4) (pa_cons (pe_op op_add pe_int (pe_fx F__law_take (hr.mono (by decide)) rfl (pa_cons (pv 2) (pa_cons (pe_callB (call_min2 rfl) (by rfl) T.free_min (by decide +kernel) (pa_cons (pv 3) (pa_cons pe_int pa_nil))) pa_nil)))) pa_nil)))) (pa_cons (pe_revL (pv 5)) pa_nil)))) (pg_name (i := 10) sc_law.nd rfl (Or.inl rfl)) (pss_cons (ps_if (pt_cmpR op_eq (pe_callB call_len_seq (by rfl) T.free_len (by decide +kernel) (pa_cons (pv 10) pa_nil)) pe_int (nomark _)) (pss_one ps_continue) pss_nil) (pss_one (ps_if (pt_not (pt_val (pe_fx F__law_right (hr.mono (by decide)) rfl (pa_cons (pv 2) (pa_cons (pv 8) (pa_cons (pv 6) (pa_cons (pv 10) (pa_cons (pe_fx F_least_bundle (hr.mono (by decide)) rfl (pa_cons (pv 8) (pa_cons (pv 10) pa_nil))) pa_nil)))))))) (pss_one (ps_ret pe_bl)) pss_nil)))) (pss_cons (ps_asg (pe_fx F__law_alike (hr.mono (by decide)) rfl (pa_cons (pv 2) (pa_cons (pv 4) (pa_cons (pv 5) (pa_cons (pv 6) pa_nil))))) (pg_tup (by rfl) (pgs_cons (pg_name (i := 11) sc_law.nd rfl (Or.inl rfl)) (pgs_cons (pg_name (i := 12) sc_law.nd rfl (Or.inl rfl)) (pgs_cons (pg_name (i := 13) sc_law.nd rfl (Or.inl rfl)) pgs_nil))))) (pss_cons (ps_set (i := 14) sc_law.nd rfl (Or.inl rfl) (pe_fx F_least_bundle (hr.mono (by decide)) rfl (pa_cons (pv 11) (pa_cons (pe_callTy call_tupS (by rfl) T.free_tuple (by decide +kernel) (pa_cons (pv 12) pa_nil)) pa_nil)))) (pss_cons (ps_if (pt_cmpR op_ne (pe_ix ix_tup (pv 14) pe_int (fun _ _ => rfl)) (pe_ix ix_tup (pv 9) pe_int (fun _ _ => rfl)) (nomark _)) (pss_one (ps_ret pe_bl)) pss_nil) (C8.pss_cut (ps_if (PW.pt (pw_and (pt_cmpR op_lt (pv 3) pe_int (nomark _)) (pw_and1 (pt_not (pt_val (pe_fx F__law_right (hr.mono (by decide)) rfl (pa_cons (pv 2) (pa_cons (pv 11) (pa_cons (pv 13) (pa_cons (pv 12) (pa_cons (pv 14) pa_nil))))))))))) (pss_one (ps_ret pe_bl)) pss_nil) (pss_one (ps_if (pt_cmpR op_lt (pv 3) pe_int (nomark _)) (pss_cons (ps_set (i := 15) sc_law.nd rfl (Or.inl rfl) (pe_callB (cr_reprF rfl hr.units) (by rfl) T.free_repr (by decide +kernel) (pa_cons (pv 9) pa_nil))) (pss_cons (ps_expr (pe_bm PySem.F.plainAttrs_list PySem.F.slot_list_append PySem.F.type_list_append mt_append (pe_dget (hu_of hr) (pe_ix ix_tup (pv 9) pe_int (fun _ _ => rfl)) (pe_callTy call_tupS (by rfl) T.free_tuple (by decide +kernel) (pa_cons (pv 5) pa_nil)) (fun _ _ => rfl)) (pa_cons pe_non pa_nil))) (pss_cons (ps_expr (pe_bm PySem.F.plainAttrs_dict PySem.F.slot_dict_pop PySem.F.type_dict_pop (mt_pop1 (hu_of hr)) (pe_ix ix_tup (pv 9) pe_int (fun _ _ => rfl)) (pa_cons (pe_tup (pa_cons (pe_ix ix_list (pv 5) pe_int (fun _ _ => rfl)) pa_nil)) pa_nil))) (pss_cons (ps_if (PW.pt (pw_or (pt_cmpR op_ne (pe_callB (cr_reprF rfl hr.units) (by rfl) T.free_repr (by decide +kernel) (pa_cons (pe_fx F_least_bundle (hr.mono (by decide)) rfl (pa_cons (pv 8) (pa_cons (pv 5) pa_nil))) pa_nil)) (pv 15) (nomark _)) (pw_or1 (pt_cmpR (op_neD hr.units) (pe_mx0 T.cls_Heap F_Heap_names (hr.mono (by decide)) (pv 8)) (pv 4) (nomark _))))) (pss_one (ps_ret pe_bl)) pss_nil) (pss_cons (ps_set (i := 6) sc_law.nd rfl (Or.inl rfl) (pe_fx F__law_replaced (hr.mono (by decide)) rfl (pa_cons (pv 8) (pa_cons (pv 6) (pa_cons (pv 7) (pa_cons (pe_ix ix_list (pv 5) (pe_fx F__law_take (hr.mono (by decide)) rfl (pa_cons (pv 2) (pa_cons (pv 3) pa_nil))) (fun _ _ => rfl)) pa_nil)))))) (pss_one (ps_if (pt_not (pt_val (pe_fx F__law_right (hr.mono (by decide)) rfl (pa_cons (pv 2) (pa_cons (pv 8) (pa_cons (pv 6) (pa_cons (pv 5) (pa_cons (pe_fx F_least_bundle (hr.mono (by decide)) rfl (pa_cons (pv 8) (pa_cons (pv 5) pa_nil))) pa_nil)))))))) (pss_one (ps_ret pe_bl)) pss_nil))))))) pss_nil)))))))))))))))) (pss_one (ps_ret pe_bl))), ?_⟩
    have zl : (zs.map V.int).length = zs.length := List.length_map ..
    obtain ⟨N, eN⟩ : ∃ N : Nat, N = max 2 (min 5 zs.length) := ⟨_, rfl⟩
    refine ⟨_, rfl, sl, _, rfl, .inl hsl, _, _, rfl, _, _, rfl, N, ?_, by omega, by omega, ?_⟩
    · refine congrArg (fun z => [V.int z]) ?_
      rw [zl, eN]
      by_cases c1 : (zs.length : Int) < 5
      · rw [if_pos c1]
        by_cases c2 : (zs.length : Int) > 2
        · rw [if_pos c2]
          omega
        · rw [if_neg c2]
          omega
      · rw [if_neg c1, if_pos (by decide)]
        omega
    refine for_it (walk_rng (n := N)) (fun i σ A => Same H A ∧ ∃ u1 u2 u3 u4 u5 u6 u7 u8 u9 u10 u11 u12 u13 u14 u15, σ = [some (.ref sl), u1, u2, u3, u4, u5, u6, u7, u8, u9, u10, u11, u12, u13, u14, u15]) ⟨Same.refl _, _, _, _, _, _, _, _, _, _, _, _, _, _, _, _, rfl⟩ (fun _ _ _ _ _ => trivial) (fun i x σ A B hi h y => ?_) fun σ A h => ?_
    · obtain ⟨s0, u1, u2, u3, u4, u5, u6, u7, u8, u9, u10, u11, u12, u13, u14, u15, rfl⟩ := h
      obtain ⟨rfl, ex⟩ := y
      obtain ⟨hi5, ex2⟩ := rng_at ex
      rw [Int.zero_add] at ex2
      subst ex2
      refine ⟨_, rfl, _, rfl, sl, zs, i, rfl, Same.seq s0 hsl, fun c => ⟨c, rfl, fun q nq H1 s1 hq1 => ?_⟩⟩
      have sH1 := s0.trans s1
      have nqB : B q = none := nq
      refine ⟨fun σ' A2 => ∃ m : Nat, σ' = [some (.ref sl), some (.int (i : Int)), some (.ref q), some (.int (m : Int)), u4, u5, u6, u7, u8, u9, u10, u11, u12, u13, u14, u15] ∧ Sm [q] H1 A2 ∧ PurseAt A2 q 1 ∧ 1 ≤ m ∧ m ≤ 4, ?_, ?_⟩
      · refine ⟨_, rfl, _, rfl, rfl, _, rfl, ite2 (fun hb => ?_) (fun hb => ?_)⟩
        · refine ⟨q, 0, 4, rfl, hq1, by decide, by decide, by decide, fun A2 n s2 hq2 n0 n1 => ⟨_, _, rfl, rfl, (1 + n).toNat, ?_, s2, hq2, by omega, by omega⟩⟩
          rw [show (((1 + n).toNat : Nat) : Int) = 1 + n by omega]
          rfl
        · refine ⟨q, 0, 3, rfl, hq1, by decide, by decide, by decide, fun A2 n s2 hq2 n0 n1 => ⟨_, _, rfl, rfl, (1 + n).toNat, ?_, s2, hq2, by omega, by omega⟩⟩
          rw [show (((1 + n).toNat : Nat) : Int) = 1 + n by omega]
          rfl
      rintro σ' A2 ⟨m, rfl, s2, hq2, m1, m4⟩
      refine ⟨fun σ' A3 => ∃ hl hs, σ' = [some (.ref sl), some (.int (i : Int)), some (.ref q), some (.int (m : Int)), some (.ref hl), u5, u6, u7, u8, u9, u10, u11, u12, u13, u14, u15] ∧ Sm [q] H1 A3 ∧ PurseAt A3 q 20 ∧ hl ≠ q ∧ B hl = none ∧ A3 hl = some (.lst ((hs : List Str).map V.str)) ∧ 6 ≤ hs.length ∧ hs.length ≤ 12 ∧ hs.Nodup ∧ (∀ n ∈ hs, isName n), ?_, ?_⟩
      · refine ⟨_, rfl, _, rfl, q, _, 7, rfl, hq2, by decide, by decide, by decide, fun A3 n t3 hq3 n0 n1 => ⟨(by show 2 ≤ sizeLine; decide), fun l1 hl1 => ?_⟩⟩
        have s4 := same_upd (u := .lst [.int 0, .int n]) hl1
        have el1 : (upd A3 l1 (.lst [.int 0, .int n])) l1 = some (.lst [.int 0, .int n]) := upd_same
        have nl1 : l1 ≠ q := hq3.has hl1
        have hq4 := hq3.mono s4
        refine ⟨_, rfl, q, _, 2, rfl, hq4, by decide, by decide, by decide, fun A5 j t5 hq5 j0 j1 => ?_⟩
        have el5 := t5 _ _ (fun y => nl1 (List.mem_singleton.mp y)) el1
        obtain ⟨x, ex, x0, x6⟩ : ∃ x : Nat, atI [V.int 0, .int n] j = some (.int (x : Int)) ∧ 0 ≤ x ∧ x ≤ 6 := by
          rcases (show j = 0 ∨ j = 1 by omega) with rfl | rfl
          · exact ⟨0, rfl, by omega, by omega⟩
          · refine ⟨n.toNat, ?_, by omega, by omega⟩
            rw [show ((n.toNat : Nat) : Int) = n by omega]
            rfl
        refine ⟨l1, _, j, _, rfl, rfl, SqL.of el5, ex, _, _, rfl, rfl, q, _, 6 + x, rfl, hq5, by decide, by omega, fun r A6 hs t6 hq6 nr er hlen hnd hnm => ?_⟩
        have s26 : Sm [q] H1 A6 := s2.trans (t3.trans ((Same_sm s4).trans (t5.trans t6)))
        have nrq : r ≠ q := hq5.has nr
        refine ⟨r, hs, rfl, s26, hq6.up (by omega), nrq, ?_, er, by omega, by omega, hnd, hnm⟩
        cases z : B r with
        | none => rfl
        | some u =>
          rw [same_sm s1 nqB (s2.trans (t3.trans ((Same_sm s4).trans t5))) _ _ z] at nr
          cases nr
      rintro σ' A3 ⟨hl, hs, rfl, s3, hq3, nhq, nhB, ehl, h6, h12, hnd, hnm⟩
      refine ⟨_, rfl, _, rfl, _, rfl, q, _, hl, hs, m, rfl, hq3, by decide, nhq, SqL.of ehl, by omega, by omega, by omega, fun nl A4 ns rest s4 hq4 nnl enl hperm hlen => ?_⟩
      have nnq : nl ≠ q := hq3.has nnl
      have hnds : ns.Nodup := by
        have := hperm.nodup_iff.mpr hnd
        exact (List.nodup_append.mp this).1
      have hin : ∀ n ∈ ns, n ∈ hs := fun n hn => hperm.subset (List.mem_append_left _ hn)
      have ehl4 := s4 _ _ (fun y => nhq (List.mem_singleton.mp y)) ehl
      refine ⟨_, rfl, _, rfl, _, rfl, q, _, hl, nl, hs, ns, rfl, hq4, by omega, nhq, nnq, SqL.of ehl4, SqL.of enl, hnd, h12, by omega, by omega, hin, fun bd S A5 s5 hq5 nbd hbook hsm => ?_⟩
      have ehl5 := s5 _ _ (fun y => nhq (List.mem_singleton.mp y)) ehl4
      have enl5 := s5 _ _ (fun y => nnq (List.mem_singleton.mp y)) enl
      refine ⟨_, rfl, _, rfl, _, rfl, q, _, hl, nl, hs, ns, rfl, hq5, by omega, nhq, nnq, SqL.of ehl5, SqL.of enl5, hnd, h12, by omega, by omega, hin, fun td S2 A6 s6 hq6 ntd htwin hsm2 => ?_⟩
      have ehl6 := s6 _ _ (fun y => nhq (List.mem_singleton.mp y)) ehl5
      have enl6 := s6 _ _ (fun y => nnq (List.mem_singleton.mp y)) enl5
      have hbook6 := hbook.mono s6.off
      refine ⟨_, _, rfl, ?_⟩
      have okS : ∀ n ∈ hs, isName n ∧ okT (S n) := fun n hn => ⟨hnm n hn, small_ok hsm (by omega) hn⟩
      refine ⟨_, rfl, _, rfl, q, _, .ref bd, S, hs, rfl, hq6, by omega, hbook6, h12, hnd, okS, fun a dx l xs ps G s7 hq7 nl0 hkp hnp hSp => ?_⟩
      have nmq : ∀ {b : Addr}, b ≠ q → b ∉ [q] := fun h m => h (List.mem_singleton.mp m)
      have hqG : PurseAt G q 300 := hq7.up (by omega)
      have ehlG := s7 _ _ (nmq nhq) ehl6
      have enlG := s7 _ _ (nmq nnq) enl6
      have toG : Same (off [q] A6) (off (l :: [q]) G) := fun b u z => by
        have mm : b ∉ [q] := fun y => by rw [off_in y] at z; cases z
        rw [off_out mm] at z
        have nbl : b ≠ l := fun e => by rw [e, nl0] at z; cases z
        rw [off_out fun y => by rcases List.mem_cons.mp y with y | y; exact nbl y; exact mm y]
        exact s7 b u mm z
      have bookG := hbook6.mono toG
      have twinG := htwin.mono toG
      have offG : ∀ {A : Hp}, Same (off (l :: [q]) A) (off [q] A) := fun b u z => by
        have mm : b ∉ l :: [q] := fun y => by rw [off_in y] at z; cases z
        rw [off_out mm] at z
        rw [off_out fun y => mm (List.mem_cons_of_mem _ y)]
        exact z
      have sBG : Same B G := same_sm s1 nqB (s3.trans (s4.trans (s5.trans (s6.trans s7))))
      have sHG : Same H G := s0.trans sBG
      clear toG hbook6 hbook htwin hq7 hq6 hq5 hq4 hq3 hq2
      have psub : ∀ n ∈ hs, n ∈ pNames ps := fun n hn => by
        rw [hnp]
        exact hn
      have n1 : 1 ≤ ns.length := by omega
      have n4 : ns.length ≤ 4 := by omega
      have good : GoodNames ps S ns := good_of hsm hin psub hnds n1 (Nat.le_refl _) n4
      have hinm : ∀ n ∈ ns, n ∈ hs ∧ isName n := fun n hn => ⟨hin n hn, hnm n (hin n hn)⟩
      have kpG : HpAt K G a dx l xs ps := (hkp.mono off_le).hp
      refine ⟨_, rfl, _, rfl, a, dx, l, xs, ps, S, nl, ns, rfl, kpG, hSp, SqL.of enlG, good, fun n hn => (hinm n hn).2, fun t G2 vp d kvs i0 q0 s8 ndG told => ?_⟩
      have hqG2 := hqG.mono s8
      have told2 := told_off hqG hqG2 told
      have bk : ∀ {A : Hp}, Sm [q] G A → BookAt (off [q] A) (.ref bd) S hs := fun s => (bookG.mono offG).mono s.off
      have hp_ : ∀ {A : Hp}, Sm [q] G A → HpAt K (off [q] A) a dx l xs ps := fun s => hkp.hp.mono s.off
      have enl_ : ∀ {A : Hp}, Sm [q] G A → A nl = some (.lst (ns.map V.str)) := fun s => s _ _ (nmq nnq) enlG
      have ehl_ : ∀ {A : Hp}, Sm [q] G A → A hl = some (.lst (hs.map V.str)) := fun s => s _ _ (nmq nhq) ehlG
      have g8 : Sm [q] G G2 := Same_sm s8
      refine ⟨_, rfl, _, rfl, _, rfl, _, rfl, _, rfl, q, 300, a, dx, l, xs, ps, .ref bd, S, hs, nl, ns, t, d, vp, kvs, i0, q0, G, rfl, hqG2, by decide, hp_ g8, hSp, bk g8, nnq, SqL.of (enl_ g8), good, hinm, told2, fun G3 s9 hq9 => ?_⟩
      have g9 := g8.trans s9
      have told3 := told2.mono s9.off
      refine ⟨_, rfl, iteF ?_⟩
      refine ⟨_, rfl, _, rfl, _, rfl, _, rfl, _, _, rfl, q, _, _, rfl, hq9, by decide, ?_, ?_, fun G4 nn s10 hq10 c0 c1 => ?_⟩
      · split <;> omega
      · split <;> omega
      obtain ⟨cN, ecN⟩ := Int.eq_ofNat_of_zero_le c0
      have cm : cN < ns.length := by
        split at c1 <;> omega
      refine ⟨_, _, rfl, rfl, q, _, hl, hs, 1 + cN, ?_, hq10, by decide, nhq, SqL.of (ehl_ (g9.trans s10)), by omega, by omega, by omega, fun r1 G5 cs rest5 s11 hq11 nr1 er1 hperm5 hlen5 => ?_⟩
      · rw [ecN]
        rfl
      have g5 := g9.trans (s10.trans s11)
      have nrq1 : r1 ≠ q := hq10.has nr1
      refine ⟨_, rfl, nl, _, rfl, SqL.of (enl_ g5), fun r2 hr2 => ⟨(by show 2 ≤ sizeLine; decide), fun tp htp => ?_⟩⟩
      have nrq2 : r2 ≠ q := hq11.has hr2
      have s12 := same_upd (u := .lst (ns.map V.str).reverse) hr2
      have er2 : (upd G5 r2 (.lst (ns.map V.str).reverse)) r2 = some (.lst (ns.reverse.map V.str)) := by rw [upd_same, List.map_reverse]
      have hq12 := hq11.mono s12
      have er1' := s12 _ _ er1
      generalize upd G5 r2 (.lst (ns.map V.str).reverse) = G6 at s12 er2 hq12 er1' htp ⊢
      have s13 := same_upd (u := .tup [.ref r1, .ref r2]) htp
      have er1'' := s13 _ _ er1'
      have er2'' := s13 _ _ er2
      have hq13 := hq12.mono s13
      have etp : (upd G6 tp (.tup [.ref r1, .ref r2])) tp = some (.tup [.ref r1, .ref r2]) := upd_same
      have g6 := g5.trans (Same_sm (s12.trans s13))
      generalize upd G6 tp (.tup [.ref r1, .ref r2]) = G7 at s13 er1'' er2'' hq13 etp g6 ⊢
      refine ⟨tp, rfl, ⟨_, SqT.of etp⟩, for_it (walk_tup (xs := [.ref r1, .ref r2])) (fun j σ A => ∃ u10, σ = [some (.ref sl), some (.int (i : Int)), some (.ref q), some (.int (m : Int)), some (.ref hl), some (.ref nl), some (.ref bd), some (.ref td), some (.ref a), some (.ref t), u10, u11, u12, u13, u14, u15] ∧ Sm [q] G7 A ∧ PurseAt A q (2000 + 500 * j)) ⟨_, rfl, Sm.refl, hq13.up (by omega)⟩ (fun j σ A _ hA => ?_) (fun j x σ A A' hj hA y => ?_) fun σ A hA => ?_⟩
      · obtain ⟨_, _, sA, _⟩ := hA
        exact Same_tup sA.offr (sqt_off hq13.dull (SqT.of etp))
      · obtain ⟨u10', rfl, sA, hqA⟩ := hA
        obtain ⟨rfl, ex⟩ := y
        obtain ⟨r, cs', rfl, erA, csub, cnd, cl1, cl2⟩ : ∃ r cs', x = .ref r ∧ A' r = some (.lst ((cs' : List Str).map V.str)) ∧ (∀ n ∈ cs', n ∈ hs) ∧ cs'.Nodup ∧ 1 ≤ cs'.length ∧ cs'.length ≤ ns.length := by
          have hj2 : j < 2 := hj
          match j, hj2, ex with
          | 0, _, ex =>
            refine ⟨r1, cs, (Option.some.inj ex).symm, sA _ _ (nmq nrq1) er1'', fun n hn => hperm5.subset (List.mem_append_left _ hn), ?_, by omega, by omega⟩
            have := hperm5.nodup_iff.mpr hnd
            exact (List.nodup_append.mp this).1
          | 1, _, ex =>
            refine ⟨r2, ns.reverse, (Option.some.inj ex).symm, sA _ _ (nmq nrq2) er2'', fun n hn => hin n (List.mem_reverse.mp hn), (List.reverse_perm ns).nodup_iff.mpr hnds, by rw [List.length_reverse]; exact n1, by rw [List.length_reverse]; exact Nat.le_refl _⟩
        have gA := g6.trans sA
        have goodc : GoodNames ps S cs' := good_of hsm csub psub cnd cl1 cl2 n4
        have hj2 : j < 2 := hj
        refine ⟨_, rfl, r, _, rfl, .inl (SqL.of erA), rfl, _, rfl, ite2 (fun hb => ?_) (fun hb => ?_)⟩
        · exact ⟨_, rfl, sA, hqA.up (by omega)⟩
        · have kpA := (hp_ gA).mono off_le
          have nrq : r ≠ q := fun z => by
            obtain ⟨_, _, _, e, _⟩ := hqA
            rw [z, e] at erA
            have e2 := HO.lst.inj (Option.some.inj erA)
            cases cs' with
            | nil => cases e2
            | cons c1 c2 =>
              injection e2 with e3
              cases e3
          refine ⟨_, rfl, _, rfl, _, rfl, _, rfl, _, rfl, _, rfl, a, dx, l, xs, ps, S, r, cs', rfl, kpA, hSp, .inl (SqL.of erA), goodc, fun t' A2 vp' d' kvs' i' q' s' nd' et' hl' ed' hpa' hf' => ?_⟩
          have hqA2 := hqA.mono s'
          have told' : ToldAt K A' A2 S cs' t' d' vp' kvs' i' q' := ⟨et', hl', ed', hpa'.mono off_le, hf'⟩
          have gA2 := gA.trans (Same_sm s')
          refine ⟨q, _, a, dx, l, xs, ps, .ref bd, S, hs, r, cs', t', d', vp', kvs', i', q', A', rfl, hqA2, by omega, hp_ gA2, hSp, bk gA2, nrq, SqL.of (s' _ _ erA), goodc, fun n hn => ⟨csub n hn, hnm n (csub n hn)⟩, told_off hqA hqA2 told', fun A3 s'' hqA3 => ?_⟩
          exact ⟨_, rfl, iteF ⟨_, rfl, sA.trans ((Same_sm s').trans s''), hqA3.up (by omega)⟩⟩
      · obtain ⟨u10', rfl, sA, hqA⟩ := hA
        have gA := g6.trans sA
        have toldA := told3.mono (s10.trans (s11.trans ((Same_sm (s12.trans s13)).trans sA))).off
        have hqA' : PurseAt A q 3000 := hqA.up (by show 2000 + 500 * 2 ≤ 3000; decide)
        refine ⟨_, rfl, _, rfl, _, rfl, _, rfl, q, 3000, hl, nl, bd, hs, ns, S, rfl, hqA', by decide, nhq, nnq, SqL.of (ehl_ gA), SqL.of (enl_ gA), bk gA, hnd, h12, hin, by omega, okS, fun t2 a2 dx2 l2 xs2 ps2 p' d' S' C ms ks A2 s14 hq14 et2 np' ep' mperm hkp2 hS2 hn2 hb2 kperm Cname Cinj Cturn => ?_⟩
        have gA2 := gA.trans s14
        have toldA2 := toldA.mono s14.off
        refine ⟨t2, _, rfl, SqT.of et2, rfl, _, _, rfl, _, _, rfl, _, _, rfl, rfl, ?_⟩
        have sm' : SmallS S' (hs.map C) ns.length := small_turn hsm Cturn
        have msl : ms.length = ns.length := mperm.length_eq
        have msin : ∀ n ∈ ms, n ∈ hs := fun n hn => hin n (mperm.subset hn)
        have psub2 : ∀ n ∈ hs.map C, n ∈ pNames ps2 := fun n hn => by
          rw [hn2]
          exact kperm.symm.subset hn
        have mnd : (ms.map C).Nodup := by
          have md := mperm.nodup_iff.mpr hnds
          rw [List.nodup_iff_pairwise_ne, List.pairwise_map]
          exact List.Pairwise.imp_of_mem (fun {x y} hx hy hne e => hne (Cinj x (msin x hx) y (msin y hy) e)) (List.nodup_iff_pairwise_ne.mp md)
        have good2 : GoodNames ps2 S' (ms.map C) := good_of sm' (fun n hn => by
          obtain ⟨x, hx, rfl⟩ := List.mem_map.mp hn
          exact List.mem_map.mpr ⟨x, msin x hx, rfl⟩) psub2 mnd (by rw [List.length_map]; omega) (by rw [List.length_map]; omega) n4
        have hinm2 : ∀ n ∈ ms.map C, n ∈ ks ∧ isName n := fun n hn => by
          obtain ⟨x, hx, rfl⟩ := List.mem_map.mp hn
          exact ⟨kperm.symm.subset (List.mem_map.mpr ⟨x, msin x hx, rfl⟩), Cname x (msin x hx)⟩
        refine ⟨_, rfl, _, rfl, p', _, rfl, .inl (SqL.of ep'), fun u A3 s15 ⟨bb, eu, eb⟩ => ?_⟩
        subst eu
        have hq15 := hq14.mono s15
        have kp2A3 : HpAt K A3 a2 dx2 l2 xs2 ps2 := ((hkp2.mono off_le).hp).mono s15
        refine ⟨a2, dx2, l2, xs2, ps2, S', bb, ms.map C, rfl, kp2A3, hS2, .inr eb, good2, fun t3 A4 vp3 d3 kvs3 i3 q3 s16 nd3 et3 hl3 ed3 hpa3 hf3 => ?_⟩
        have hq16 := hq15.mono s16
        have told4 : ToldAt K A3 A4 S' (ms.map C) t3 d3 vp3 kvs3 i3 q3 := ⟨et3, hl3, ed3, hpa3.mono off_le, hf3⟩
        have told4o := told_off hq15 hq16 told4
        have s24 : Sm [q] A2 A4 := Same_sm (s15.trans s16)
        have gA4 := gA2.trans s24
        have toldA4 := toldA2.mono s24.off
        have same : q3.three.vol = q0.three.vol := least_same good good2 mperm hin Cinj Cturn (fun n hn => (okS n hn).2) told3.fst hf3
        refine ⟨_, rfl, t3, _, _, _, rfl, rfl, SqT.of et3, rfl, _, rfl, t, _, _, _, rfl, rfl, SqT.of (toldA4.mono off_le).tup, rfl, rfl, _, rfl, iteE false (by rw [same]; simp) ?_⟩
        refine ⟨fun σ' A5 => σ' = [some (.ref sl), some (.int (i : Int)), some (.ref q), some (.int (m : Int)), some (.ref hl), some (.ref nl), some (.ref bd), some (.ref td), some (.ref a), some (.ref t), u10', some (.ref a2), some (.ref p'), some (.ref d'), some (.ref t3), u15] ∧ Sm [q] A4 A5 ∧ PurseAt A5 q 4000, ?_, ?_⟩
        · refine ⟨_, rfl, _, _, rfl, rfl, _, rfl, ite2 (fun hb => ?_) (fun hb => ?_)⟩
          · refine ⟨_, rfl, _, rfl, _, rfl, _, rfl, _, rfl, q, _, a2, dx2, l2, xs2, ps2, .ref d', S', ks, p', ms.map C, t3, d3, vp3, kvs3, i3, q3, A3, rfl, hq16, by decide, hkp2.hp.mono s24.off, hS2, hb2.mono s24.off, np', SqL.of (s16 _ _ (s15 _ _ ep')), good2, hinm2, told4o, fun A5 s17 hq17 => ?_⟩
            exact ⟨_, rfl, iteF ⟨rfl, s17, hq17.up (by decide)⟩⟩
          · exact iteF ⟨rfl, Sm.refl, hq16.up (by decide)⟩
        rintro σ' A5 ⟨rfl, s17, hq17⟩
        have gA5 := gA4.trans s17
        have toldA5 := toldA4.mono s17.off
        have nqH : H q = none := by
          cases z : H q with
          | none => rfl
          | some u =>
            rw [s0 _ _ z] at nqB
            cases nqB
        refine ⟨_, rfl, _, _, rfl, rfl, _, rfl, ite2 (fun hb => ?_) (fun hb => ?_)⟩
        · have m3 : ns.length ≤ 3 := by
            have := of_decide_eq_true hb
            omega
          have fits0 : okT q0.three := by
            have okL := upTo_ok (S := S) hnds n4 (choicesOf ns).length
            rw [upTo_all] at okL
            have okq := (getL_ok okL ns).1 q0 (List.mem_of_getElem? told3.fst.1)
            rw [okq.2]
            exact span_fits okq.1 (fun n hn => (okS n (hin n hn)).2) good.fit
          have toldA5' := toldA5.mono off_le
          refine ⟨_, rfl, t, S, ns, d, vp, kvs, i0, q0, G, rfl, toldA5', hnds, m3, fun n hn => (hinm n hn).2, fits0, ?_⟩
          generalize edue : (foundD q0.three.vol q0.paper (laidLists S ns)).shown = due
          have keys : (laidLists S ns).map (·.1) = choicesOf ns := full_keys S ns
          have n0 : ns ≠ [] := List.length_pos_iff.mp n1
          obtain ⟨ll, us, k1, k2, k3, k4⟩ := PaAt.get toldA5.ents (c := ns) (by rw [keys]; exact choices_mem.mpr ⟨n0, List.Sublist.refl _⟩)
          have ell := off_le _ _ k3
          have nllq : ll ≠ q := hqG.has k2
          have etA5 := toldA5'.tup
          have edA5 := toldA5'.dct
          have nlld : ll ≠ d := fun z => by rw [z, edA5] at ell; cases ell
          have nllt : ll ≠ t := fun z => by rw [z, etA5] at ell; cases ell
          have ndt : d ≠ t := fun z => by rw [z, etA5] at edA5; cases edA5
          have ndq : d ≠ q := hqG.has ndG
          have lus : us.length ≤ 3000000 := by
            have okL := upTo_ok (S := S) hnds n4 (choicesOf ns).length
            rw [upTo_all] at okL
            rw [k4.length]
            exact Nat.le_trans (getL_ok okL ns).2 (by unfold mostOf; split <;> omega)
          refine ⟨_, rfl, t, _, _, _, rfl, rfl, SqT.of etA5, rfl, _, rfl, nl, _, rfl, .inl (SqL.of (enl_ gA5)), fun u A6 s18 ⟨bb2, eu2, eb2⟩ => ?_⟩
          subst eu2
          refine ⟨d, _, rfl, dget_of (s18 _ _ edA5) eb2 k1, .inl ⟨rfl, _, SqL.of (s18 _ _ ell)⟩, ll, _, _, rfl, rfl, s18 _ _ ell, Nat.lt_of_le_of_lt lus (by decide), ?_⟩
          have hq18 := (hq17.mono s18).put nllq (u := .lst (us ++ [.non]))
          have g18 := sm_fresh (u := .lst (us ++ [.non])) (gA5.trans (Same_sm s18)) k2
          have ed18 : (upd A6 ll (.lst (us ++ [.non]))) d = some (.dT kvs) := by
            rw [upd_ne nlld.symm]
            exact s18 _ _ edA5
          have et18 : (upd A6 ll (.lst (us ++ [.non]))) t = some (.tup [.int q0.three.vol, vp, .ref d]) := by
            rw [upd_ne nllt.symm]
            exact s18 _ _ etA5
          generalize upd A6 ll (.lst (us ++ [.non])) = A7 at hq18 g18 ed18 et18 ⊢
          obtain ⟨n, hnn⟩ : ∃ n, ns[0]? = some n := ⟨ns[0], List.getElem?_eq_getElem (by omega)⟩
          have at0 : atI (ns.map V.str) 0 = some (.str n) := atI_nat (j := 0) (by rw [List.getElem?_map, hnn]; rfl)
          refine ⟨_, rfl, t, _, _, _, rfl, rfl, SqT.of et18, rfl, ?_⟩
          refine ⟨.inr (.inr (.inl ⟨rfl, .inr ⟨_, ed18⟩⟩)), _, rfl, nl, _, _, _, rfl, rfl, SqL.of (enl_ g18), at0, (by show 1 ≤ sizeLine; decide), fun tq htq => ?_⟩
          have s19 := same_upd (u := .tup [.str n]) htq
          have etq : (upd A7 tq (.tup [.str n])) tq = some (.tup ((keyOf [n]).map kV)) := upd_same
          have ed19 := s19 _ _ ed18
          have hq19 := hq18.mono s19
          have g19 := g18.trans (Same_sm s19)
          generalize upd A7 tq (.tup [.str n]) = A8 at etq ed19 hq19 g19 ⊢
          have nin : n ∈ ns := List.mem_of_getElem? hnn
          obtain ⟨lz, uz, kz, _⟩ := PaAt.get toldA5.ents (c := [n]) (by rw [keys]; exact choices_mem.mpr ⟨by simp, List.singleton_sublist.mpr nin⟩)
          refine ⟨d, kvs, keyOf [n], tq, _, rfl, rfl, ed19, etq, kz, ?_⟩
          have hq20 := hq19.put ndq (u := .dT (dropK kvs (keyOf [n])))
          have g20 := sm_fresh (u := .dT (dropK kvs (keyOf [n]))) g19 ndG
          generalize upd A8 d (.dT (dropK kvs (keyOf [n]))) = A9 at hq20 g20 ⊢
          have kpA : ∀ {A : Hp}, Sm [q] G A → HpAt K A a dx l xs ps := fun s => (hp_ s).mono off_le
          refine ⟨_, rfl, _, rfl, a, dx, l, xs, ps, S, nl, ns, rfl, kpA g20, hSp, .inl (SqL.of (enl_ g20)), good, fun t4 B1 vp4 d4 kvs4 i4 q4 s21 nd4 et4 hl4 ed4 hpa4 hf4 => ?_⟩
          have same4 : q4 = q0 := hf4.same told3.fst
          have g21 := g20.trans (Same_sm s21)
          have hq21 := hq20.mono s21
          refine ⟨t4, S, ns, d4, vp4, kvs4, i4, q4, A9, rfl, ⟨et4, hl4, ed4, hpa4.mono off_le, hf4⟩, hnds, m3, fun n hn => (hinm n hn).2, by rw [same4]; exact fits0, ?_⟩
          rw [same4, edue]
          refine ⟨_, rfl, rfl, _, rfl, iteE false (by simp) ?_⟩
          refine ⟨_, rfl, a, dx, _, rfl, (kpA g21).ins, rfl, a, dx, l, xs, ps, rfl, kpA g21, fun D B2 s22 nD eD => ?_⟩
          have g22 := g21.trans (Same_sm s22)
          have hq22 := hq21.mono s22
          refine ⟨_, rfl, strD (pNames ps), strD hs, .lst (SqL.of eD) (dp_strs _), .lst (SqL.of (ehl_ g22)) (dp_strs _), strD_shaped (by rw [hnp]; exact hnm), strD_shaped hnm, _, rfl, iteE false (strD_ne hnp hnm) ?_⟩
          refine ⟨_, rfl, _, rfl, _, rfl, _, rfl, _, rfl, _, rfl, q, _, _, rfl, hq22, by decide, by omega, by omega, fun B3 j s23 hq23 j0 j1 => ?_⟩
          obtain ⟨j, rfl⟩ := Int.eq_ofNat_of_zero_le j0
          have hjn : j < ns.length := by omega
          have g23 := g22.trans s23
          have jin : ns[j] ∈ hs := hin _ (List.getElem_mem hjn)
          have lq : l ≠ q := fun z => by
            have e := hkp.lst
            rw [z, off_in (List.mem_singleton.mpr rfl)] at e
            cases e
          have offL : ∀ {A : Hp}, Sm [q] G A → Same (off (l :: [q]) G) (off (l :: [q]) A) := fun s => Sm.off (s.wid fun b m => List.mem_cons_of_mem _ m)
          refine ⟨nl, _, _, .str ns[j], rfl, rfl, SqL.of (enl_ g23), atI_nat (by rw [List.getElem?_map, List.getElem?_eq_getElem hjn]; rfl), ?_⟩
          refine ⟨a, dx, l, xs, ps, S, S2, bd, td, ns[j], hs, [q], rfl, fun b m => ?_, nmq lq, hkp.mono g23.off, hSp, by rw [hnp]; exact hnd, psub _ jin, bookG.mono (offL g23), twinG.mono (offL g23), jin, h12, hnm _ jin, small_ok hsm2 n1 jin, fun d5 xs5 ps5 B4 s24 kp5 says5 sub5 book5 => ?_⟩
          · rw [List.mem_singleton.mp m]
            obtain ⟨_, _, _, e, _⟩ := id hq23
            exact ⟨_, e, hq23.dull q (List.mem_singleton.mpr rfl) _ e⟩
          have sm5 : SmallS (putS S ns[j] (S2 ns[j])) hs ns.length := small_put hsm hsm2 jin
          have good5 : GoodNames ps5 (putS S ns[j] (S2 ns[j])) ns := good_of sm5 hin (fun n hn => sub5 n (psub n hn)) hnds n1 (Nat.le_refl _) n4
          have nll : nl ≠ l := fun z => by rw [← z, enl6] at nl0; cases nl0
          have enl5 : B4 nl = some (.lst (ns.map V.str)) := s24 nl _ (fun y => nll (List.mem_singleton.mp y)) (enl_ g23)
          have hq24 : PurseAt B4 q 4001 := by
            obtain ⟨x, y, z, e, r⟩ := hq23
            exact ⟨x, y, z, s24 q _ (fun m => lq (List.mem_singleton.mp m).symm) e, r⟩
          have sHB4 : Same H B4 := fun b u z => s24 b u (fun y => by
            have e := same_sm (same_sm sH1 nqH (s3.trans (s4.trans (s5.trans s6)))) nqH Sm.refl b u z
            rw [List.mem_singleton.mp y, nl0] at e
            cases e) (same_sm sHG nqH g23 b u z)
          have kp5' := kp5.mono off_le
          refine ⟨_, rfl, _, rfl, _, rfl, _, rfl, _, rfl, _, rfl, a, dx, l, xs5, ps5, putS S ns[j] (S2 ns[j]), nl, ns, rfl, kp5'.hp, says5, .inl (SqL.of enl5), good5, fun t6 B5 vp6 d6 kvs6 i6 q6 s25 nd6 et6 hl6 ed6 hpa6 hf6 => ?_⟩
          have hq25 := hq24.mono s25
          have told6 : ToldAt K B4 B5 (putS S ns[j] (S2 ns[j])) ns t6 d6 vp6 kvs6 i6 q6 := ⟨et6, hl6, ed6, hpa6.mono off_le, hf6⟩
          refine ⟨q, _, a, dx, l, xs5, ps5, .ref d5, putS S ns[j] (S2 ns[j]), hs, nl, ns, t6, d6, vp6, kvs6, i6, q6, B4, rfl, hq25, by decide, (kp5.hp).mono (off_mono s25), says5, (book5.mono offG).mono (off_mono s25), nnq, SqL.of (s25 _ _ enl5), good5, hinm, told_off hq24 hq25 told6, fun B6 s26 hq26 => ?_⟩
          exact ⟨_, rfl, iteF ⟨same_sm (sHB4.trans s25) nqH s26, _, _, _, _, _, _, _, _, _, _, _, _, _, _, _, rfl⟩⟩
        · exact ⟨same_sm sHG nqH gA5, _, _, _, _, _, _, _, _, _, _, _, _, _, _, _, rfl⟩
    · exact k A
end
end Bx
set_option Elab.async false
set_option linter.all false
set_option maxRecDepth 100000
set_option maxHeartbeats 0
/-! BxEnd: the law holds. -/
namespace Bx
open PySem PySem.Spec PyProof.Rows L2
theorem facts_end {w : World} {K : PySem.W.Frag} {h : Heap} {mg : Str → Option Value} {f : Addr} (X : K.In h) (G : h.Ns mainGlobals mg) (hf : mg ("law" : Str) = some (.ref f)) (c : He.SaysT fa fn tabs w K) (m : Bx.more K = true) (P : Program) :
    ∃ fd : FuncData, (∀ (s : Shared) (v : Value), BindsTo s fd ⟨[v], []⟩ [("_law_script", v)]) ∧ ∀ base : Heap, K.In base → base.Ns mainGlobals mg → FnC P w K mg base 16 f fd ["_law_script"] (spLaw K) := by
  have T : Env w K mg := ⟨h, X, G, c, m⟩
  obtain ⟨fd, F⟩ := T.d_law
  have e := hf.symm.trans T.glo_law
  cases e
  have b := FunD.bindsA (ps := ["_law_script"]) F fun _ _ _ _ _ _ us hl => match us, hl with | [_], _ => rfl
  exact ⟨fd, fun s v => b s [v] rfl, fun base _ _ => F_law T F⟩
end Bx
open PySem PySem.W PySem.Calls PyProof.Rows
theorem PySem.Challenge.cw_boxinbox_k47_whole_least_bundle_holds : PySem.Challenge.rw_boxinbox_k47_whole_least_bundle.Holds := by
  w_on; o_law
  refine HandSHeadRun.head_any (r := Bx.R) (q := Bx.qv) (H := Bx.hk) (ob := Bx.ob) (M := 9000) (loose := Bx.names) (d := HandSHeadRun.topDef Bx.R.prog 90) (kwd := []) Bx.ob_eq
    (by kernel_rfl) (fun s => by kernel_rfl) Bx.run (by kernel_rfl) (by kernel_rfl) (by kernel_rfl) (by rfl) (by first | assumption | decide +kernel) (by decide +kernel) ⟨rfl, rfl, rfl, rfl, rfl, by decide +kernel⟩ ?hw ?hc
  case hw => w_witness2
  case hc =>
    refine Bx.walkC (l := PySem.Challenge.rw_boxinbox_k47_whole_least_bundle) (n := 63) (k := 16) (x := "_law_script") rfl (by decide) (by kernel_rfl) ⟨rfl, by decide, by decide⟩ ?F (fun _ _ _ _ z => z)
    intro w mg f h Y G hm0
    obtain ⟨K, KX, c, m⟩ := Y
    have hf : mg ("law" : PySem.Str) = some (.ref f) := by
      have e : (HandSHeadRun.topDef Bx.R.prog 90).name = ("law" : PySem.Str) := by kernel_rfl
      rw [← e]
      exact hm0
    obtain ⟨fd, hb, hF⟩ := Bx.facts_end KX G hf c m (PySem.Challenge.rw_boxinbox_k47_whole_least_bundle).prog
    exact ⟨K, fd, Bx.spLaw K, KX, hb, fun H a ns hl _ hS => ⟨a, ns, rfl, hS, hl, fun _ => rfl⟩, hF⟩
