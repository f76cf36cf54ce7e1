import PyProof.Rows.All
import HandS.ForMost
import HandS.SetFor
import HandS.Zip
import HandS.FStrTup
import HandS.More
import HandS.Walk
import KE.GoesEnum
import HandS.Strs
import HandS.Style
import HandS.TupMul
import HandS.TupAny
import HandS.ForExc
import HandS.ExcSuper
import HandS.ExcField
import HandS.ExcInit
import KE.KExcSuper
import HandS.IsInst
import HandS.Dict
import HandS.Sort
import HandS.Conv
import KE.KDictList
import HandS.Deep
import KE.KEqDeep
import HandS.WordsDict
import HandS.WordsExc
import HandS.NoneIn
import Wide.All
import OpenK.AllK
import Wide.FinOn
import KE.RegKSuper
import PySem.Challenge.RW_sharedunseen_k38_whole_matchings_of_tabl
set_option Elab.async false
set_option linter.all false
set_option maxRecDepth 100000
set_option maxHeartbeats 2000000
/-! Ru1: len(set(x)) for a tuple or a list of ints, with equal items too. -/
namespace K38
open PySem PySem.Spec PyProof.Rows L2

/-- as many as ns, if none is twice -/
theorem card_iff {L ns : List Int} (hL : L.Nodup) (hm : ∀ k, k ∈ L ↔ k ∈ ns) : L.length ≤ ns.length ∧ (L.length = ns.length ↔ ns.Nodup) := by
  have h1 : L.length ≤ ns.length := List.Nodup.length_le_of_subset hL fun k hk => (hm k).mp hk
  refine ⟨h1, fun e => ?_, fun hn => Nat.le_antisymm h1 (List.Nodup.length_le_of_subset hn fun k hk => (hm k).mpr hk)⟩
  exact nodup_of_card hL hm e
where
  nodup_of_card : ∀ {L ns : List Int}, L.Nodup → (∀ k, k ∈ L ↔ k ∈ ns) → L.length = ns.length → ns.Nodup := by
    intro L ns
    induction ns generalizing L with
    | nil => intro _ _ _; exact List.nodup_nil
    | cons a r ih =>
      intro hL hm e
      have ha : a ∈ L := (hm a).mpr List.mem_cons_self
      by_cases hr : a ∈ r
      · exfalso
        have : L.length ≤ r.length := List.Nodup.length_le_of_subset hL fun k hk => by
          rcases List.mem_cons.mp ((hm k).mp hk) with z | z
          · rw [z]; exact hr
          · exact z
        rw [e, List.length_cons] at this
        omega
      · refine List.nodup_cons.mpr ⟨hr, ih (L := L.erase a) (hL.erase a) (fun k => ?_) ?_⟩
        · rw [hL.mem_erase_iff]
          constructor
          · rintro ⟨n, hk⟩
            rcases List.mem_cons.mp ((hm k).mp hk) with z | z
            · exact absurd z n
            · exact z
          · intro hk
            refine ⟨fun z => hr (z ▸ hk), (hm k).mpr (List.mem_cons_of_mem _ hk)⟩
        · rw [List.length_erase_of_mem ha, e, List.length_cons]
          rfl

theorem firstMet_mem {ns : List Int} : ∀ (i : Nat) (k : Int), i ≤ ns.length → (k ∈ firstMet (fun i => ns.getD i 0) i ↔ k ∈ ns.take i)
  | 0, k, _ => by simp [firstMet_zero]
  | i + 1, k, hi => by
    have ih := firstMet_mem (ns := ns) i k (Nat.le_of_succ_le hi)
    have hi2 : i < ns.length := hi
    have e1 : ns.getD i 0 = ns[i] := by simp [hi2]
    have e2 : ns.take (i + 1) = ns.take i ++ [ns[i]] := by
      rw [List.take_add_one, List.getElem?_eq_getElem hi2]
      rfl
    have ha := firstMet_mem (ns := ns) i ns[i] (Nat.le_of_succ_le hi)
    rw [firstMet_succ, e2, List.mem_append, ← ih, List.mem_singleton]
    show k ∈ (if (firstMet _ i).any (· == ns.getD i 0) then firstMet _ i else firstMet _ i ++ [ns.getD i 0]) ↔ _
    rw [e1]
    by_cases h : (firstMet (fun i => ns.getD i 0) i).any (· == ns[i]) = true
    · rw [if_pos h]
      obtain ⟨y, hy, ey⟩ := List.any_eq_true.mp h
      have ey2 : y = ns[i] := eq_of_beq ey
      constructor
      · exact Or.inl
      · rintro (z | z)
        · exact z
        · rw [z, ← ey2]; exact hy
    · rw [if_neg h, List.mem_append, List.mem_singleton]
theorem firstMet_nd {ns : List Int} : ∀ i, (firstMet (fun i => ns.getD i 0) i).Nodup
  | 0 => by rw [firstMet_zero]; exact List.nodup_nil
  | i + 1 => by
    have ih := firstMet_nd (ns := ns) i
    rw [firstMet_succ]
    show (if (firstMet _ i).any (· == ns.getD i 0) then firstMet _ i else firstMet _ i ++ [ns.getD i 0]).Nodup
    by_cases h : (firstMet (fun i => ns.getD i 0) i).any (· == ns.getD i 0) = true
    · rw [if_pos h]; exact ih
    · rw [if_neg h]
      refine nd_snoc ih fun hm => h (List.any_eq_true.mpr ⟨_, hm, beq_self_eq_true _⟩)

/-- len(set(x)), x a list or a tuple of ints: as many as the unlike ones -/
def tLenSetX (K : PySem.W.Frag) (ta : TE) : TE := fun σ H Q => ta σ H fun x H1 => ∃ (l : Addr) (ns : List Int), x = .ref l ∧ (SqL K H1 l (ns.map V.int) ∨ SqT K H1 l (ns.map V.int)) ∧ ns.length ≤ 3000 ∧
  ∀ c : Nat, c ≤ ns.length → (c = ns.length ↔ ns.Nodup) → Q (.int (c : Nat)) H1
theorem pe_lenSetX {X : Cx} {a : Expr} {ta : TE} {p p2 q pos : Pos} (hg : Gl X "len") (hm : X.mg "len" = none) (hg2 : Gl X "set") (hm2 : X.mg "set" = none) (ha : PE X a ta) (hc : X.calm = true := by rfl)
    (na : starEach [a] X.env = (false, eval a X.env) :: starEach [] X.env := by rfl) : PE X (.Call (.Name "len" p) [.Call (.Name "set" p2) [a] [] q] [] pos) (tLenSetX X.K ta) := by
  refine ⟨fun pins s σ H Q I h => ?_⟩
  refine Call_ (ld_blt I hg hm boot_len ?_)
  refine callWith_builtin1 (args_cons ?_ rfl) rfl rfl
  refine Call_ (ld_blt I hg2 hm2 boot_set ?_)
  refine callWith_type1 (args_cons (thn (ha.run pins s σ H _ I h) fun v s1 ⟨x, H1, I1, r1, q1⟩ => args_nil ?_) na) na rfl
  obtain ⟨l, ns, rfl, hq, hl, q1⟩ := q1
  cases r1
  rcases hq with hq | hq
  · obtain ⟨its, r, pl, hz⟩ := I1.list hq
    have hlen : its.toArray.size = ns.length := by rw [List.size_toArray, ← r.length, List.length_map]
    refine call_set_list (I1.ok.hd hc) pl.isList (by simpa using r.ints) (by rw [hlen]; unfold scanBound; omega) fun h' tk hS hk => ?_
    refine args_nil ?_
    obtain ⟨o, es, ep, t, ho, hex, hd, _, _, _, hf, hn⟩ := hS
    have I2 : Inv X pins σ H1 { s1 with heap := h', toks := tk } := I1.kept fun b o e => hk b o (Heap.lt_size e) e
    rw [hlen] at hn
    have hcard := card_iff (L := firstMet (fun i => ns.getD i 0) ns.length) (ns := ns) (firstMet_nd _) fun k => by
      rw [firstMet_mem _ _ (Nat.le_refl _), List.take_length]
    have hle := hcard.1
    exact call_len_set ho hex hd hf (by rw [hn] <;> omega) ⟨.int ((firstMet (fun i => ns.getD i 0) ns.length).length : Nat), H1, I2.tok _, ⟨_, by rw [hn]⟩, q1 _ hcard.1 hcard.2⟩
  · obtain ⟨its, r, pl, hz⟩ := I1.tuple hq
    refine call_set_tupI ns (I1.ok.hd hc) pl (by simpa using r.ints) (by unfold scanBound; omega) fun h' tk c hS hc' hk => ?_
    refine args_nil ?_
    obtain ⟨o, es, ep, t, ho, hex, hd, _, hnd, hmem, _, hf, hn, _⟩ := hS
    have I2 : Inv X pins σ H1 { s1 with heap := h', toks := tk } := I1.kept hk
    have hcard := card_iff (L := es.toList.map keyOf) (ns := ns) hnd fun k => by
      rw [← hmem]; exact decide_eq_true_iff
    have e : (es.toList.map keyOf).length = c := by rw [List.length_map, Array.length_toList, hn]
    rw [e] at hcard
    exact call_len_set ho hex hd hf (by rw [hn] <;> omega) ⟨.int (c : Nat), H1, I2.tok _, ⟨_, by rw [hn]⟩, q1 _ hcard.1 hcard.2⟩
end K38

set_option Elab.async false
set_option linter.all false
set_option maxRecDepth 100000
set_option maxHeartbeats 2000000
/-! Ru2: repr of data, where no repr is under way. -/
namespace K38
open PySem PySem.Spec PyProof.Rows L2

/-- ints of a tuple as data -/
def tupD (ns : List Int) : PyData := .tuple (ns.map PyData.int)
theorem tupD_show : ∀ ns : List Int, (∀ n ∈ ns, 0 ≤ n ∧ n < 1000) → PyData.showableAll (ns.map PyData.int) = true
  | [], _ => rfl
  | n :: r, h => by
    have hn := h n List.mem_cons_self
    show (decide (n.natAbs.log2 < 1920) && PyData.showableAll (r.map PyData.int)) = true
    rw [tupD_show r fun m hm => h m (List.mem_cons_of_mem _ hm), Bool.and_true]
    refine decide_eq_true ?_
    have : n.natAbs.log2 ≤ n.natAbs := Nat.log2_le_self _
    omega
theorem tupD_noDict : ∀ ns : List Int, PyData.hasDictAll (ns.map PyData.int) = false
  | [] => rfl
  | n :: r => by
    show (false || PyData.hasDictAll (r.map PyData.int)) = false
    rw [tupD_noDict r]
    rfl
theorem tupD_depth : ∀ ns : List Int, PyData.depthAll (ns.map PyData.int) = 0
  | [] => rfl
  | n :: r => by
    show max 0 (PyData.depthAll (r.map PyData.int)) = 0
    rw [tupD_depth r]
    rfl
theorem tupD_piled : ∀ ns : List Int, (∀ n ∈ ns, 0 ≤ n ∧ n < 1000) → piled (PyData.shownAll (ns.map PyData.int)) ≤ 5 * ns.length
  | [], _ => by show piled [] ≤ _; rw [piled_nil]; exact Nat.zero_le _
  | n :: r, h => by
    have hn := h n List.mem_cons_self
    have ih := tupD_piled r fun m hm => h m (List.mem_cons_of_mem _ hm)
    show piled (PyData.shown (.int n) :: PyData.shownAll (r.map PyData.int)) ≤ 5 * (r.length + 1)
    rw [piled_cons]
    have e : (PyData.shown (.int n)).length ≤ 3 := by
      show (Str.ofString (toString n)).length ≤ 3
      exact toString_length_le hn.1 (by decide) (by omega)
    omega
theorem tupD_len {ns : List Int} (h : ∀ n ∈ ns, 0 ≤ n ∧ n < 1000) (hl : ns.length ≤ 1000) : (tupD ns).shown.length ≤ sizeLine := by
  have h1 := fmt_text (PyData.shownAll (ns.map PyData.int))
  have h2 := tupD_piled ns h
  show (tupleText (PyData.shownAll (ns.map PyData.int))).length ≤ sizeLine
  rw [sizeLine_eq]
  omega

/-- repr(x) of None, a bool, a tuple of small ints -/
def ReprV (K : PySem.W.Frag) (H : Hp) (x : V) (t : Str) : Prop :=
  (x = .non ∧ t = "None") ∨ (∃ b : Bool, x = .bl b ∧ t = (PyData.bool b).shown) ∨
    ∃ (a : Addr) (ns : List Int), x = .ref a ∧ SqT K H a (ns.map V.int) ∧ (∀ n ∈ ns, 0 ≤ n ∧ n < 1000) ∧ ns.length ≤ 1000 ∧ t = (tupD ns).shown
theorem dpAll_ints {K : PySem.W.Frag} {H : Hp} : ∀ ns : List Int, DpAll K H (ns.map V.int) (ns.map PyData.int)
  | [] => .nil
  | n :: r => .cons (.int n) (dpAll_ints r)
theorem cr_repr {X : Cx} (hu : X.A.units + 64 < cLine) (hg : X.A.guards = some []) : CallR X (.builtin "repr") (fun xs H Q => ∃ x t, xs = [x] ∧ ReprV X.K H x t ∧ Q (.str t) H) := by
  intro pins s σ H xs us Q I r h
  obtain ⟨x, t, rfl, hx, q⟩ := h
  obtain ⟨u, rfl, ru⟩ := vals1 r
  rcases hx with ⟨rfl, rfl⟩ | ⟨b, rfl, rfl⟩ | ⟨a, ns, rfl, hq, hb, hl, rfl⟩
  · cases ru
    exact PySem.P.repr_of_none ⟨.str _, H, I.tok _, ⟨_, rfl⟩, q⟩
  · cases ru
    refine PySem.P.repr_of_bool ⟨.str _, H, I.tok _, ⟨_, rfl⟩, ?_⟩
    cases b <;> exact q
  · cases ru
    obtain ⟨as, rd⟩ := Dp.reads I (tupD ns) (.ref a) (.ref a) (.tup hq (dpAll_ints ns)) rfl
    refine repr_of_reads' rd (tupD_show ns hb) (fun z => ?_) hg ?_ (fun _ _ e => e) (fun h' u tk hk => ⟨.str _, H, I.kept (t' := tk) hk, ⟨_, rfl⟩, q⟩) (tupD_len hb hl)
    · have e : (tupD ns).hasDict = false := tupD_noDict ns
      rw [e] at z; cases z
    · have e : (tupD ns).depth = PyData.depthAll (ns.map PyData.int) + 1 := rfl
      rw [e, tupD_depth]
      omega
end K38

set_option Elab.async false
set_option linter.all false
set_option maxRecDepth 100000
set_option maxHeartbeats 2000000
/-! Ru3: sorted(t) of a tuple of fewer than 64 ints. -/
namespace K38
open PySem PySem.Spec PyProof.Rows L2
section
variable {prog : Program} {w : World} {A : Around} {E : Value → Shared → Prop} {s : Shared}
/-- collecting a tuple: its items, one new list behind -/
theorem collect_tup {l : Addr} {vs : List Value} {Q : List Value → Shared → Prop} (hl : IsTup s.heap l vs.toArray) (hsz : vs.length ≤ sizeLine)
    (h : Q vs { s with heap := (s.heap.push (seqObj "list" #[] 0)).update s.heap.objs.size (Obj.mapSeq (· ++ vs.toArray)) }) :
    wpAny (model prog w) A (collect (.ref l)) Q E s := by
  obtain ⟨o, ho, hc, n, hd⟩ := hl
  unfold collect
  refine wpAny_bind (wpAny_runValue (codeAny_builtin entry_proto_collect' ?_))
  show wpAny _ _ (do again (.builtin "list.__iadd__" ⟨[← newList [], .ref l], []⟩)) _ _ s
  refine wpAny_bind (wpAny_newList (wpAny_pure ⟨Code.quiet_builtin _ (by decide +kernel), codeAny_builtin entry_list_iadd' ?_⟩))
  show wpAny _ _ (Builtin.List.listExtendWith (.ref s.heap.objs.size) (.ref l) (.ref s.heap.objs.size)) _ _ { s with heap := s.heap.push (seqObj "list" #[] 0) }
  unfold Builtin.List.listExtendWith
  have hol : (s.heap.push (seqObj "list" #[] 0)).get? l = some o := Heap.get?_push_of_some _ ho
  refine wpAny_bind (wpAny_typeOf (T := "tuple") ⟨o, hol, hc⟩ ?_)
  rw [if_pos (show (_ || _ || (Value.type "tuple" == Value.type "tuple")) = true by rw [beq_self_eq_true, Bool.or_true])]
  refine wpAny_bind (listItems_at hol hd ?_)
  refine wpAny_bind (listItems_at (xs := #[]) (n := 0) (Heap.get?_push_size _ rfl) rfl ?_)
  rw [if_neg (by simp)]
  refine wpAny_bind (listUpdate_at (xs := #[]) (n := 0) (Heap.get?_push_size _ rfl) rfl ?_ (Nat.zero_le _) (by show (#[] ++ vs.toArray).size ≤ sizeLine + 1; simp only [Array.size_append, List.size_toArray, List.length_nil]; omega))
  refine wpAny_pure ?_
  show wpAny (model prog w) A (load s.heap.objs.size >>= fun o => match o.data with | .seq xs _ => pure xs.toList | _ => unsupported "internal:collect") Q E _
  refine wpAny_bind (wpAny_load (get?_update_seq (Heap.get?_push_size _ rfl) _) ?_)
  show wpAny _ _ (pure ((#[] : Array Value) ++ vs.toArray).toList) Q E _
  rw [show ((#[] : Array Value) ++ vs.toArray).toList = vs by simp]
  exact wpAny_pure h
theorem sorted_tupInts {l : Addr} {vs : List Value} {ns : List Int} {Q : Value → Shared → Prop} (hl : IsTup s.heap l vs.toArray) (hI : IntsAre vs ns) (h64 : vs.length < 64)
    (h : ∀ (out : Array Value) (ms : List Int), IntsAre out.toList ms → ms.Perm ns → ms.Pairwise (· ≤ ·) → Q (.ref (s.heap.objs.size + 1)) { s with heap := sortedAll s.heap vs out }) :
    wpAny (model prog w) A (call (.builtin "sorted") [.ref l]) Q E s := by
  refine Calls.call_function_entry kind_sorted plain_sorted entry_sorted (args_sorted1 _) ?_
  unfold Builtin.«sorted»
  refine wpAny_bind (m := checkCount "sorted" 1 1 _) (wpAny_pure ?_)
  refine wpAny_bind (collect_tup hl (by rw [sizeLine_eq]; omega) ?_)
  refine wpAny_bind (wpAny_newList ?_)
  have esz : ((s.heap.push (seqObj "list" #[] 0)).update s.heap.objs.size (Obj.mapSeq (· ++ vs.toArray))).objs.size = s.heap.objs.size + 1 := by
    rw [Heap.size_update, size_push']
  have at1 : (((s.heap.push (seqObj "list" #[] 0)).update s.heap.objs.size (Obj.mapSeq (· ++ vs.toArray))).push (seqObj "list" vs.toArray 0)).get? (s.heap.objs.size + 1) = some (seqObj "list" vs.toArray 0) := by
    rw [← esz]; exact Heap.get?_push_size _ rfl
  show wpAny _ _ _ _ _ { s with heap := ((s.heap.push (seqObj "list" #[] 0)).update s.heap.objs.size (Obj.mapSeq (· ++ vs.toArray))).push (seqObj "list" vs.toArray 0) }
  rw [esz]
  refine wpAny_bind (wpAny_holding (wpAny_call_entry slot_list_sort ⟨_, at1, rfl⟩ entry_list_sort (list_sort_tree at1 hI h64 fun out ms a1 a2 a3 => ⟨_, rfl, ?_⟩) (args_list_sort _)))
  exact wpAny_pure ⟨_, rfl, h out ms a1 a2 a3⟩
end
/-- sorted(x), x a list or a tuple of ints -/
theorem cr_sortedX {X : Cx} : CallR X (.builtin "sorted") (fun vs H Q => ∃ (a : Addr) (ns : List Int), vs = [V.ref a] ∧ (SqL X.K H a (ns.map V.int) ∨ SqT X.K H a (ns.map V.int)) ∧ ns.length < 64 ∧
    ∀ (ms : List Int) (p : Addr), ms.Perm ns → ms.Pairwise (· ≤ ·) → H p = none → Q (.ref p) (upd H p (.lst (ms.map V.int)))) := by
  intro pins s σ H vs us Q I r h
  obtain ⟨a, ns, rfl, hs, h64, q⟩ := h
  rcases hs with hs | hs
  · exact cr_sorted pins s σ H _ us Q I r ⟨a, ns, rfl, hs, h64, q⟩
  · obtain ⟨its, rv, hl, _⟩ := I.tuple hs
    rw [Vals.ref1 r]
    have hi := rv.ints
    refine sorted_tupInts hl hi (by rw [hi.length]; exact h64) fun out ms h1 h2 h3 => ?_
    obtain ⟨ep, he⟩ := sortedAll_at s.heap its out
    have hlen : (ms.map V.int).length ≤ sizeLine := by rw [List.length_map, h2.length_eq]; exact small64 h64
    exact ⟨.ref _, upd H (s.heap.objs.size + 1) (.lst (ms.map V.int)), I.laid (t' := s.toks) (fun _ _ => sortedAll_old) (Nat.le_succ _) ⟨hlen, out.toList, ep, vals_of_ints h1, he⟩, rfl, q ms _ h2 h3 (I.hok.fresh (Nat.le_succ _))⟩
end K38

set_option Elab.async false
set_option linter.all false
set_option maxRecDepth 100000
set_option maxHeartbeats 2000000
/-! Ru4: for i, x in enumerate(t), t a tuple. -/
namespace K38
open PySem PySem.Spec PyProof.Rows L2
/-- enumerate(v) laid: the iterator of v, then the counting one -/
theorem meets_enum1 {v : Value} {o : Obj} {G : Heap → Prop} (B : Begins v o G) :
    Meets (Builtin.«enumerate.__new__» ⟨[.type "enumerate", v], []⟩) (fun _ R s => G s.heap ∧
      R (.ok (.ret (.ref (s.heap.push o).objs.size))) { s with heap := (s.heap.push o).push { cls := .type "enumerate", data := .fields #[.none, .bool false, .ref s.heap.objs.size, rawInt 0, .none, .none] } }) :=
  .of_wp fun prog w A R s h => by
    obtain ⟨hp, g, d, tk, os⟩ := s
    obtain ⟨h1, h⟩ := h
    have hsub := sub_enumerate
    have q1 : ∀ {A' : Around} {E : Value → Shared → Prop} {Q : Value → Shared → Prop}, Q (.ref hp.objs.size) ⟨hp.push o, g, d, tk, os⟩ → wpAny (model prog w) A' (pyIter v) Q E ⟨hp, g, d, tk, os⟩ :=
      fun q => B.iter prog w _ _ ⟨hp, g, d, tk, os⟩ _ h1 q
    wp_walk using q1
    refine wpAny_stack_any fun st => wpAny_pure ?_
    split
    · rename_i c _ _ _ _ _
      cases (c == Value.type "enumerate")
      · wp_walk using q1
        exact ⟨_, rfl, h⟩
      · wp_walk using q1
        exact ⟨_, rfl, h⟩
    · wp_walk using q1
      exact ⟨_, rfl, h⟩
theorem call_enumT {prog : Program} {w : World} {A : Around} {E : Value → Shared → Prop} {s : Shared} {l : Addr} {items : Array Value} {Q : Value → Shared → Prop} (hl : s.heap.IsTuple l items)
    (h : ∀ h', IsEnum h' (s.heap.objs.size + 1) s.heap.objs.size 0 .none → h'.IsTupleIter s.heap.objs.size l 0 → (∀ b o, s.heap.get? b = some o → h'.get? b = some o) → Q (.ref (s.heap.objs.size + 1)) { s with heap := h' }) :
    wpAny (model prog w) A (call (.type "enumerate") [.ref l]) Q E s := by
  refine callType_new F.called_enumerate (by decide) (F.typeCall_enumerate_1 _) (F.newCall_enumerate_1 _) (fun obj => F.args_object_init_2 obj _) F.entry_enumerate_new (meets_enum1 (begins_tuple l items)) ⟨hl, ?_⟩
  generalize hoI : ({ cls := .type "tuple_iterator", data := .fields #[.ref l, .int 0 0] } : Obj) = oI
  have hf : oI.isFreed = false := by rw [← hoI]; rfl
  have hz : (s.heap.push oI).objs.size = s.heap.objs.size + 1 := Heap.size_push ..
  show _ ∧ _
  rw [hz]
  have he : IsEnum ((s.heap.push oI).push { cls := .type "enumerate", data := .fields #[.none, .bool false, .ref s.heap.objs.size, rawInt 0, .none, .none] }) (s.heap.objs.size + 1) s.heap.objs.size 0 .none := by
    have e := Heap.get?_push_size (s.heap.push oI) (o := { cls := .type "enumerate", data := .fields #[.none, .bool false, .ref s.heap.objs.size, rawInt 0, .none, .none] }) rfl
    rw [hz] at e
    exact e
  exact ⟨⟨_, he, rfl⟩, h _ he ⟨oI, Heap.get?_push_of_some _ (Heap.get?_push_size _ hf), by rw [← hoI], by rw [← hoI]; rfl⟩ fun b o x => Heap.get?_push_of_some _ (Heap.get?_push_of_some _ x)⟩
/-- each item of the tuple at a in a new pair with its number -/
def IteT (K : PySem.W.Frag) (a : Addr) : It where
  go := fun i H => ∃ (xs : List V) (x : V), SqT K H a xs ∧ xs[i]? = some x
  yld := fun i H v H' => ∃ T x, v = .ref T ∧ H T = none ∧ H' = upd H T (.tup [.int (i : Nat), x]) ∧ ∀ xs, SqT K H a xs → xs[i]? = some x
  stop := fun i H => ∃ xs : List V, SqT K H a xs ∧ xs.length ≤ i
theorem turn_enumT {P : Program} {w : World} {K : PySem.W.Frag} {elts : List Expr} {kk : Nat} {tpos : Pos} (a e it : Addr) :
    Turn P w K (.Tuple elts kk tpos) (IteT K a) [e, it] e (fun i h => (∃ old, IsEnum h e it ((i : Nat) : Int) old) ∧ h.IsTupleIter it a i ∧ e ≠ it) where
  mem := List.mem_cons_self
  obj := fun i h st b hb => by
    obtain ⟨⟨old, he⟩, ⟨o, ho, _, hd⟩, _⟩ := st
    rcases List.mem_cons.mp hb with z | z
    · rw [z]; exact ⟨_, he, fun v q => nomatch q⟩
    · rw [List.mem_singleton.mp z]; exact ⟨o, ho, fun v q => by rw [hd] at q; cases q⟩
  keep := fun i h h' st k => by
    obtain ⟨⟨old, he⟩, hi, hne⟩ := st
    exact ⟨⟨old, k e (by simp) _ he⟩, hi.at fun o q => k it (by simp) o q, hne⟩
  item := by
    intro X hP hw hK hc i pins s σ H E I hf st hg
    subst hP hw hK
    obtain ⟨⟨old, he⟩, hit, hne⟩ := st
    obtain ⟨xs, x, hq, hx⟩ := hg
    obtain ⟨its, rv, p, hz⟩ := I.tuple hq
    obtain ⟨u, hu, ru⟩ := rv.get hx
    have hiu : its.toArray[i]? = some u := by simpa using hu
    have hil : i < its.toArray.size := (Array.getElem?_eq_some_iff.mp hiu).1
    have hel : e < s.heap.objs.size := Heap.lt_size he
    have hitl : it < s.heap.objs.size := by obtain ⟨_, q, _⟩ := hit; exact Heap.lt_size q
    have hai : a ≠ it := fun z => by
      obtain ⟨o1, q1, c1, _⟩ := p
      obtain ⟨o2, q2, c2, _⟩ := hit
      rw [z, q2] at q1
      cases q1
      rw [c2] at c1
      exact absurd c1 (by decide)
    have hae : e ≠ a := fun z => by
      obtain ⟨o1, q1, c1, _⟩ := p
      rw [← z, he] at q1
      cases q1
      exact absurd (show Value.type "enumerate" = Value.type "tuple" from c1) (by decide)
    have hh : X.A.in1.handled = none := I.ok.hd hc
    refine wpAny_pyNext_enum_itemD (Draws.tuple hh it a hai its.toArray) he ⟨hit, p⟩ hil hne (by simp [hne, hae]) fun x1 h1 tk hx1 ho1 st1 hT hsz hk => ?_
    obtain rfl : x1 = u := Option.some.inj (hx1.symm.trans hiu)
    refine ⟨_, rfl, wpAny_letOwnedTupleGo_enum (s := { s with heap := h1, toks := tk + 1 }) ho1 fun h2 he2 sb => ?_⟩
    have hT2 : h2.get? s.heap.objs.size = some { cls := .type "tuple", data := .seq #[.int i tk, x1] } := (sb.2 _ (Nat.ne_of_gt hel)).trans hT
    have new : ObjOk X.prog X.w (upd H s.heap.objs.size (.tup [.int (i : Nat), x])) h2 s.heap.objs.size (.tup [.int (i : Nat), x]) :=
      ⟨by show 2 ≤ sizeLine; decide, [.int i tk, x1], .cons ⟨_, rfl⟩ (.cons ru .nil), ⟨_, hT2, rfl, _, rfl⟩⟩
    have I1 : Inv X pins σ (upd H s.heap.objs.size (.tup [.int (i : Nat), x])) { s with heap := h2, toks := tk + 1 } :=
      I.turnedNew (ch := [e, it]) (fun b ob hb q => (sb.2 b (fun z => hb (by simp [z]))).trans (hk b ob (fun z => hb (by simp [z])) (fun z => hb (by simp [z])) q)) hf (Nat.le_refl _) new
    refine ⟨.ref s.heap.objs.size, _, I1, rfl, ⟨_, x, rfl, I.hok.fresh (Nat.le_refl _), rfl, fun ys hy => by rw [I.tuple_inj hy hq]; exact hx⟩, ⟨⟨x1, ?_⟩, st1.1.at fun o q => (sb.2 it (Ne.symm hne)).trans q, hne⟩, fun b hb => ?_⟩
    · have e1 : ((i + 1 : Nat) : Int) = (i : Int) + 1 := by omega
      rw [e1]
      exact he2
    · have hb' : b < s.heap.objs.size := by
        rcases List.mem_cons.mp hb with z | z
        · exact z ▸ hel
        · exact (List.mem_singleton.mp z) ▸ hitl
      rw [upd_ne (Nat.ne_of_lt hb')]
      exact (hf b hb).1
  done := by
    intro X hP hw hK hc i pins s σ H E I hf st hg
    subst hP hw hK
    obtain ⟨⟨old, he⟩, hit, hne⟩ := st
    obtain ⟨xs, hq, hx⟩ := hg
    obtain ⟨its, rv, p, hz⟩ := I.tuple hq
    obtain ⟨f0, f1, f2, f3, f4, f5⟩ := hf it (by simp)
    have hl := rv.length
    have hai : a ≠ it := fun z => by
      obtain ⟨o1, q1, c1, _⟩ := p
      obtain ⟨o2, q2, c2, _⟩ := hit
      rw [z, q2] at q1
      cases q1
      rw [c2] at c1
      exact absurd c1 (by decide)
    have hT : s.TypeIs (.ref e) "enumerate" := ⟨_, he, rfl⟩
    unfold pyNext
    refine wpAny_bind (wpAny_attempt (wpAny_callSpecial?_slot (name := Str.ofString "__next__") hT F.slot_enumerate_next
      (wpAny_call_entry F.slot_enumerate_next hT F.entry_enumerate_next ?_ (F.args_enumerate_next_1 _))))
    show wpAny _ _ (field (.ref e) 2 >>= _) _ _ _
    refine wpAny_bind (wpAny_field he rfl (x := .ref it) rfl ?_)
    refine wpAny_bind (wpAny_nextOf_tuple_end (I.ok.hd hc) hit p (by simp; omega) fun h1 x hb1 hx1 => ?_)
    obtain ⟨o, ho, hc1⟩ := hx1
    refine wpAny_bind (wpAny_isInstance (T := "StopIteration") (b := true) ⟨o, ho, hc1⟩ isSubtype_stop ?_)
    exact wpAny_pure ⟨rfl, I.turned (t' := s.toks) (fun b o hb q => hb1 b o hb q) f0 f1 f3 f4 f5⟩
  self := fun A i s Q E st h => by
    obtain ⟨⟨_, he⟩, _⟩ := st
    exact wpAny_pyIter_enum he h
def iEnumT (K : PySem.W.Frag) (ta : TA) : TI := fun σ H R => ta σ H fun vs H1 => ∃ a xs, vs = [.ref a] ∧ SqT K H1 a xs ∧ R (IteT K a) H1
theorem pi_enumT {X : Cx} {e : Expr} {ta : TA} {p pos tpos : Pos} {elts : List Expr} {kk : Nat} (hg : Gl X "enumerate") (hm : X.mg "enumerate" = none) (ha : PA X [e] ta) (hs : starEach [e] X.env = [(false, eval e X.env)] := by rfl) :
    PI X (.Tuple elts kk tpos) (.Call (.Name "enumerate" p) [e] [] pos) (iEnumT X.K ta) := by
  refine ⟨fun pins s σ H R I h => ?_⟩
  refine Call_ (ld_blt I hg hm boot_enumerate (callWith_type1 (thn (ha.run pos pins s σ H _ I h) fun us s1 ⟨vs, H1, I1, r1, q1⟩ => ?_) hs rfl))
  obtain ⟨a, xs, rfl, hq, q⟩ := q1
  rw [Vals.ref1 r1]
  obtain ⟨its, rv, p1, hz⟩ := I1.tuple hq
  refine call_enumT p1 fun h1 he hit hk => wpAny_pyIter_enum he ?_
  have I2 : Inv X pins σ H1 { s1 with heap := h1 } := I1.kept (t' := s1.toks) hk
  refine ⟨s1.heap.objs.size + 1, [s1.heap.objs.size + 1, s1.heap.objs.size], _, _, H1, rfl, I2, turn_enumT a (s1.heap.objs.size + 1) s1.heap.objs.size, ⟨⟨.none, he⟩, hit, Nat.succ_ne_self _⟩, fun b hb => ?_, q⟩
  have hle : s1.heap.objs.size ≤ b := by
    rcases List.mem_cons.mp hb with z | z
    · rw [z]; exact Nat.le_succ _
    · rw [List.mem_singleton.mp z]; exact Nat.le_refl _
  exact I1.fpOk hle (I1.hok.fresh hle)
theorem walk_enumT {K : PySem.W.Frag} {a : Addr} {xs : List V} : Walk (IteT K a) xs.length (fun H => SqT K H a xs) (YPair (fun i => some (.int (i : Nat))) (fun i => xs[i]?)) := by
  refine ⟨fun i _ hi q => ⟨xs, xs[i], q, by simp [hi]⟩, fun _ q => ⟨xs, q, Nat.le_refl _⟩, fun i H v H' _ q y => ?_⟩
  obtain ⟨T, x, h1, h2, h3, h4⟩ := y
  exact ⟨T, .int (i : Nat), x, h1, h2, h3, rfl, h4 xs q⟩
end K38

set_option Elab.async false
set_option linter.all false
set_option maxRecDepth 100000
set_option maxHeartbeats 4000000
/-! Ru5: t.index(n) of ints; t * n with n = 1 too; p[::-1] of a pair; x not in (.., ..) of data. -/
namespace K38
open PySem PySem.Spec PyProof.Rows L2
open PySem.SeqAt PySem.MeetsSeq
theorem flat_ints (ys : List Int) : (ys.map V.int).all flatV = true := by
  rw [List.all_map]
  exact List.all_eq_true.mpr fun _ _ => rfl
section
variable {X : Cx}
/-- t.index(k): the first place; it is there -/
theorem mt_tup_indexI : MtR X "tuple.index" (fun x xs H Q => ∃ (p : Addr) (ns : List Int) (k : Int) (j : Nat), x = .ref p ∧ xs = [.int k] ∧ SqT X.K H p (ns.map V.int) ∧ ns[j]? = some k ∧ (∀ m, m < j → ns[m]? ≠ some k) ∧ Q (.int (j : Nat)) H) := by
  intro pins s σ H x xs v us Q I rx rs h
  obtain ⟨p, ns, k, j, rfl, rfl, hq, hy, hno, q⟩ := h
  cases rx
  obtain ⟨u, rfl, t, rfl⟩ := vals1 rs
  obtain ⟨its, r, pl, hz⟩ := I.tuple hq
  obtain ⟨⟨cls, dd, dt, sl⟩, ho, hc, n, hd⟩ := pl
  simp only at hc hd
  subst hc
  subst hd
  have hl : its.toArray.size = ns.length := by rw [List.size_toArray, ← r.length, List.length_map]
  have hj : j < its.toArray.size := by rw [hl]; exact (List.getElem?_eq_some_iff.mp hy).1
  have each : ∀ (m : Nat) (hm : m < its.toArray.size), ∃ y t', ns[m]? = some y ∧ its.toArray[m] = Value.int y t' := fun m hm => by
    have hm2 : m < ns.length := by rw [← hl]; exact hm
    obtain ⟨w, hw, t', hw2⟩ := r.get (i := m) (x := .int ns[m]) (by simp [hm2])
    refine ⟨ns[m], t', List.getElem?_eq_getElem hm2, ?_⟩
    have e := (List.getElem?_eq_some_iff.mp hw).2
    rw [← hw2, ← e]
    simp
  refine call_meets PySem.F.slot_tuple_index ⟨_, ho, rfl⟩ PySem.F.entry_tuple_index (PySem.F.args_tuple_index_2 _ _) (TI.tuple_indexAt p its.toArray n dd sl (.int k t) (eqU (.int k)) j hj ?_ ?_)
    ⟨ho, fun w hw => mem_eqAt (x := .int k) ⟨t, rfl⟩ rfl r (flat_ints ns) w (by simpa using hw), ⟨.int (j : Nat), H, I.tok _, ⟨_, rfl⟩, q⟩⟩
  · obtain ⟨y, t', h1, h2⟩ := each j hj
    rw [hy] at h1
    cases h1
    rw [h2]
    show (k == k) = true
    exact beq_self_eq_true k
  · intro m hm hmj
    obtain ⟨y, t', h1, h2⟩ := each m hm
    rw [h2]
    show (y == k) = false
    exact beq_eq_false_iff_ne.mpr fun e => hno m hmj (e ▸ h1)

/-- t * 1 is t itself -/
theorem tuple_mul1 (l : Addr) (items : Array Value) (n : Nat) (dd : Option Addr) (sl : Array (Option Value)) (u : Tok) (hi : items.isEmpty = false) :
    Meets (Builtin.«tuple.__mul__» ⟨[.ref l, .int 1 u], []⟩) (fun _ R s => s.heap.get? l = some { cls := .type "tuple", dict := dd, data := .seq items n, slots := sl } ∧ R (.ok (.ret (Value.ref l))) s) :=
  .of_wp fun prog w A R s h => by
    obtain ⟨hp, g, d, tk, os⟩ := s
    obtain ⟨hl, h⟩ := h
    have f1 := AutoSeq1.idx_int
    have c0 : (decide ((1 : Int) < -(2 ^ 63)) || decide ((1 : Int) ≥ 2 ^ 63)) = false := by decide
    have c1 : (items.isEmpty || (1 : Int) == 1) = true := by rw [hi]; rfl
    wp_walk using AutoSeq1.wpAny_loadPart' hl
    repeat (first
      | (refine wpAny_ite_false (decide_eq_false (by rw [c0]; exact Bool.false_ne_true)) ?_; wp_walk using AutoSeq1.wpAny_loadPart' hl)
      | (refine wpAny_ite_true (decide_eq_true c1) ?_; wp_walk using AutoSeq1.wpAny_loadPart' hl))
    exact ⟨_, rfl, h⟩
def rRepX (K : PySem.W.Frag) : R2 := fun x y H Q => ∃ l k xs, x = .ref l ∧ y = .int k ∧ SqT K H l xs ∧ xs ≠ [] ∧ 1 ≤ k ∧ k ≤ 1000 ∧ xs.length ≤ 1000 ∧ ∀ p H', Same H H' → SqT K H' p (List.replicate k.toNat xs).flatten → Q (.ref p) H'
theorem op_repX : OpR X (binaryOp .Mult) (rRepX X.K) := by
  intro pins s σ H x y v u Q I rx ry h
  obtain ⟨l, k, xs, rfl, rfl, hT, hne, h1, h2, hz, q⟩ := h
  by_cases hk : k = 1
  · subst hk
    cases rx
    obtain ⟨t, rfl⟩ := ry
    obtain ⟨its, r, ⟨⟨cls, dd, data, sl⟩, ho, hc, n, hd⟩, hs⟩ := I.tuple hT
    simp only at hc hd
    subst hc hd
    have hi : its.toArray.isEmpty = false := by
      cases r with
      | nil => exact absurd rfl hne
      | cons a b => rfl
    refine wpAny_binaryOp_repeat_ref (T := "tuple") (U := "int") (by decide) ⟨_, ho, rfl⟩ (fun s' => typeIs_int s' 1 t) noFill_tuple_mul F.fills_int_mul F.slot_int_rmul repeat_tuple F.slot_int_index.lookup
      (call_meets F.slot_int_rmul (typeIs_int s 1 t) F.entry_int_rmul (F.args_int_rmul_2 _ _) (int_rmul_tuple 1 t l its.toArray n dd sl)
        ⟨ho, rfl, ⟨_, ho, rfl⟩, call_meets F.slot_tuple_mul ⟨_, ho, rfl⟩ F.entry_tuple_mul (F.args_tuple_mul_2 _ _) (tuple_mul1 l its.toArray n dd sl t hi) ⟨ho, ?_⟩⟩)
    refine ⟨.ref l, H, I, rfl, q l H (Same.refl H) ?_⟩
    show SqT X.K H l (xs ++ [])
    rw [List.append_nil]
    exact hT
  · refine op_repT pins s σ H _ _ v u Q I rx ry ⟨l, k, xs, rfl, rfl, hT, hne, by omega, h2, hz, fun p np => q p _ (fun b o e => ?_) (.inl (.inl upd_same))⟩
    rw [upd_ne (ne_of_none e np)]
    exact e

/-- x not in (..) of data -/
def rNotInT (K : PySem.W.Frag) : R2 := fun x y H Q => ∃ d ds, Dp K H x d ∧ Dp K H y (.tuple ds) ∧ SeqAt.shaped d = true ∧ SeqAt.shaped (.tuple ds) = true ∧ Q (.bl (!ds.any fun z => PyData.eqv z d)) H
theorem op_notInT (hu : X.A.units + 65 < cLine) : OpR X (compareOp .NotIn) (rNotInT X.K) := by
  intro pins s σ H x y v u Q I rx ry h
  obtain ⟨d, ds, hd, he, sd, se, q⟩ := h
  obtain ⟨as, r1⟩ := Dp.reads I d x v hd rx
  obtain ⟨bs, r2⟩ := Dp.reads I (.tuple ds) y u he ry
  exact SeqAt.notIn_tuple_reads r2 r1 (SeqAt.canLay_of_shaped se) (SeqAt.canLay_of_shaped sd) (room_in_shaped sd hu) ⟨.bl _, H, I, rfl, q⟩

/-- p[::-1] of a pair -/
def tRevP (K : PySem.W.Frag) (te : TE) : TE := fun σ H Q => te σ H fun x H1 => ∃ a u v, x = .ref a ∧ SqT K H1 a [u, v] ∧ ∀ p, H1 p = none → Q (.ref p) (upd H1 p (.tup [v, u]))
end
section
variable {prog : Program} {w : World} {A : Around} {E : Value → Shared → Prop} {s : Shared}
theorem getItem_pair_rev {t sl : Addr} {x y : Value} {tk : Tok} {Q : Value → Shared → Prop} (ht : IsTup s.heap t #[x, y]) (hs : s.heap.IsSliceOf sl .none .none (.int (-1) tk))
    (h : Q (.ref s.heap.objs.size) { s with heap := s.heap.push { cls := .type "tuple", data := .seq #[y, x] } }) : wpAny (model prog w) A (getItem (.ref t) (.ref sl)) Q E s := by
  have hok : sizeOk (.seq #[y, x]) := by show 2 ≤ sizeLine; decide
  obtain ⟨os, hos, hcs, hds⟩ := id hs
  have hTs : s.TypeIs (.ref sl) "slice" := ⟨os, hos, hcs⟩
  unfold getItem
  try with_reducible refine wpAny_holding ?_
  first | refine wpAny_bind (wpAny_pure ?_) | skip
  refine wpAny_bind (wpAny_sequenceKey ht.typeIs (by decide) ?_)
  refine wpAny_bind (wpAny_callSpecial?_slot (name := Str.ofString "__getitem__") ht.typeIs PyProof.Rows.slot_tuple_getitem
    (wpAny_call_entry PyProof.Rows.slot_tuple_getitem ht.typeIs entry_tuple_getitem ?_ (args_tuple_getitem _ _)))
  show wpAny _ _ (Builtin.Tuple.tupleItemsOf (.ref t) >>= _) _ _ s
  refine wpAny_bind (tupleItemsOf_ ht ?_)
  refine wpAny_bind (wpAny_typeOf hTs ?_)
  rw [if_pos (by decide)]
  have key : wpAny (model prog w) A.in1 (Builtin.Slice.sliceApplied (.ref sl) (pure (2 : Int))) (fun r s' => r = (1, -1, 2) ∧ s' = s) (fun _ _ => False) s := by
    unfold Builtin.Slice.sliceApplied Builtin.Slice.sliceFields
    refine wpAny_bind (wpAny_bind (wpAny_field hos hds (x := .none) rfl (wpAny_bind (wpAny_field hos hds (x := .none) rfl (wpAny_bind (wpAny_field hos hds (x := .int (-1) tk) rfl (wpAny_pure ?_)))))))
    refine wpAny_bind (slicePart_int ?_)
    show wpAny _ _ (if ((-1 : Int) == 0) = true then _ else _) _ _ s
    rw [if_neg (by decide)]
    refine wpAny_bind (slicePart_none (wpAny_bind (slicePart_none (wpAny_bind (wpAny_pure ?_)))))
    exact wpAny_pure ⟨rfl, rfl⟩
  refine wpAny_bind (wpAny_mono key (fun r s' z => ?_) fun _ _ z => z.elim)
  obtain ⟨rfl, rfl⟩ := z
  first
    | exact wpAny_bind (m := Builtin.Tuple.tupleExact _) (wpAny_newObj_type (wpAny_pure ⟨_, rfl, wpAny_pure h⟩) hok)
    | exact wpAny_bind (m := Builtin.Tuple.tupleExact _) (wpAny_newObj_type (wpAny_bind (wpAny_pure (wpAny_pure ⟨_, rfl, wpAny_pure h⟩))) hok)
    | exact wpAny_bind (wpAny_bind (m := Builtin.Tuple.tupleExact _) (wpAny_newObj_type (wpAny_pure (wpAny_pure ⟨_, rfl, wpAny_pure h⟩)) hok))
    | exact wpAny_bind (wpAny_bind (m := Builtin.Tuple.tupleExact _) (wpAny_newObj_type (wpAny_pure ⟨_, rfl, wpAny_pure h⟩) hok))
end
section
variable {X : Cx}
theorem pe_revP {e : Expr} {te : TE} {k : Nat} {p1 p2 p3 pos : Pos} (he : PE X e te) : PE X (.Subscript e (.Slice none none (some (.UnaryOp .USub (.Constant (.int 1) k p1) p2)) p3) pos) (tRevP X.K te) := by
  refine ⟨fun pins s σ H Q I h => ?_⟩
  refine Subscript_ (thn (he.run pins s σ H _ I h) fun v s1 ⟨x, H1, I1, r1, q1⟩ => ?_)
  obtain ⟨a, u1, u2, rfl, hx, q⟩ := q1
  cases r1
  have hst : PO X (some (.UnaryOp .USub (.Constant (.int 1) k p1) p2)) (tPart (tUn (rU fun i => .int (-i)) (tC (.int 1)))) := po_some (pe_un un_neg pe_int)
  refine wpAny_Slice (thn (po_none.run pins s1 σ H1 (fun o H2 => o = none ∧ H2 = H1) I1 ⟨rfl, rfl⟩) fun vl s2 ⟨l, H2, I2, pl, el, e2⟩ => ?_)
  subst el e2
  refine thn (po_none.run pins s2 σ H2 (fun o H3 => o = none ∧ H3 = H2) I2 ⟨rfl, rfl⟩) fun vu s3 ⟨z, H3, I3, pu, eu, e3⟩ => ?_
  subst eu e3
  refine thn (hst.run pins s3 σ H3 (fun o H4 => o = some (-1) ∧ H4 = H3) I3 ⟨1, rfl, -1, rfl, rfl, rfl⟩) fun vs s4 ⟨o, H4, I4, ps, eo, e4⟩ => ?_
  subst eo e4
  cases pl
  cases pu
  obtain ⟨tk, rfl⟩ : ∃ tk, vs = .int (-1) tk := by cases ps with | int i t => exact ⟨t, rfl⟩
  have I5 : L2.Inv X pins σ H4 { s4 with heap := s4.heap.push { cls := .type "slice", data := .fields #[.none, .none, .int (-1) tk] } } := I4.kept (t' := s4.toks) fun b ob q => Heap.get?_push_of_some _ q
  obtain ⟨its, r, ht, hz⟩ := I5.tuple hx
  obtain ⟨w1, w2, rfl, r1, r2⟩ := vals2 r
  show wpAny (model X.prog X.w) X.A (subscriptTail e (.Slice none none (some (.UnaryOp .USub (.Constant (.int 1) k p1) p2)) p3) (.ref a) (.ref s4.heap.objs.size)) (EP X pins σ Q) X.xe _
  refine tail_any (ops := [.ref a, .ref s4.heap.objs.size]) ht.typeIs (PyProof.Rows.slot_tuple_getitem.lookup) ?_ (by with_unfolding_all rfl)
  refine getItem_pair_rev ht (Heap.IsSliceOf.new _ _ _ _) ?_
  refine ⟨.ref _, _, I5.laid (t' := s4.toks) (o := .tup [u2, u1]) (fun b ob q => Heap.get?_push_of_some _ q) (Nat.le_refl _) ?_, rfl, q _ (I5.hok.fresh (Nat.le_refl _))⟩
  exact ⟨by show 2 ≤ sizeLine; decide, [w2, w1], .cons r2 (.cons r1 .nil), IsTup.new _ _⟩
end
end K38

set_option Elab.async false
set_option linter.all false
set_option maxRecDepth 100000
set_option maxHeartbeats 2000000
/-! Ru6: the law's def where no repr is under way (the call from outside), and the end of the law's row by it. -/
namespace K38
open PySem PySem.Spec PyProof.Rows L2
/-- a def's promise where no container's repr runs around -/
structure FnG (P : Program) (w : World) (K : PySem.W.Frag) (mg : Str → Option Value) (base : Heap) (CX : CXT) (k : Nat) (f : Addr) (fd : FuncData) (ps : List Str) (sp : Sp) : Prop where
  run : ∀ (A : Around) (outer : List Env) (s : Shared) (H : Hp) (args : Args) (us : List Value) (vs : List V) (Q : VK) (E : XK), A.guards = some [] → Room k A → Env0 P w K mg base A outer s H → BindsTo s fd args (ps.zip us) → Vals vs us → sp vs H Q E →
    codeAny (model P w) A (.call (.ref f) args) (CR CX outer P w H s Q E) s
/-- by its body, as Fun.okX, the guards told -/
theorem fun_okG {P : Program} {w : World} {K : PySem.W.Frag} {mg : Str → Option Value} {base : Heap} {CX : CXT} {x qual : Str} {st : Stmt} {f : Addr} {fd : FuncData} {N ps : List Str} {k : Nat} {sp : Sp} (F : Fun K x qual st f fd) (S : FnScope N ps (defScope st))
    (len : ∀ vs H Q E, sp vs H Q E → vs.length = ps.length)
    (hbody : ∀ (cdv : Value) (A : Around) (outer : List Env) (s : Shared) (H : Hp) (vs : List V) (Q : VK) (E : XK), A.guards = some [] → Room k (A.deeper (envOfC qual (defScope st) s.heap.objs.size f cdv)) → sp vs H Q E →
      ∃ t, PSs (cxOf CX P w K mg base N qual (defScope st) f cdv A outer s H E) (defBody st) t ∧ t { nx := fun _ H' => Q .non H', rt := Q } (start N vs) H) : FnG P w K mg base CX (k + 1) f fd ps sp := by
  obtain ⟨oc, od, kV, doc, pm, an, cdv, ct, osl, rfl, lk, hcd⟩ := F.ex
  refine ⟨fun A outer s H args us vs Q E hg hr e0 hb r hsp => ?_⟩
  have G : FnOk P w K mg base CX (k + 1) f (PySem.W.fnOf x qual (defArgs st) (defBody st) (defScope st) .none kV doc pm an cdv ct) ps (fun vs2 H2 Q2 E2 => False) :=
    fn_of lk hcd S (fun _ _ _ _ z => z.elim) fun _ _ _ _ _ _ _ _ z => z.elim
  have hl := len _ _ _ _ hsp
  have KX : K.In s.heap := e0.mod.kin.keeps fun b o e => (e0.bs b o e).1
  have lim : s.heap.NoLimit := e0.mod.nolimit.keeps fun b o e => (e0.bs b o e).1
  have places : ∀ y ∈ ps.zip us, (defScope st).names.lookup y.1 = some .local ∨ ((defScope st).names.lookup y.1 = some .cell ∧ ((cellsFrom (s.heap.objs.size + 1) (defScope st).names []).lookup y.1).isSome = true) := fun ⟨n, v⟩ hy => by
    rcases S.par n (List.of_mem_zip hy).1 with q | q
    · exact .inl q
    · exact .inr ⟨q, PySem.W.cellsFrom_some _ _ _ (.inl q)⟩
  refine codeAny_call_function hr.depth (KX _ _ lk) rfl S.co S.gen rfl (PySem.W.codeRec_of KX hcd) (hb _ _ _ _ ?_)
  refine wpAny_newFunctionEnv_cells S.kind places fun env he s1 y => ?_
  subst he
  refine ⟨lim.keeps y.toInCall.keep, codeAny_func ?_⟩
  obtain ⟨t, ht, hq⟩ := hbody cdv A outer s H vs Q E hg (hr.deeper _) hsp
  have I : Inv (cxOf CX P w K mg base N qual (defScope st) f cdv A outer s H E) [] (start N vs) H s1 := inv_start S hr.hd e0 hl r y
  refine wpAny_mono (ht.run [] s1 (start N vs) H _ I hq) (fun fl s' hs => ?_) fun e s' hs => hs
  have fin : ∀ {σ' : L2.St} {H' : Hp} {v : V} {u : Value}, Inv (cxOf CX P w K mg base N qual (defScope st) f cdv A outer s H E) [] σ' H' s' → RelV v u → Q v H' → CE outer P w H s Q u s' :=
    fun {σ' H' v u} J rv q => ⟨v, H', J.os, J.bare, J.base, J.hok, rv, q⟩
  cases fl with
  | ret u =>
    obtain ⟨v, σ', H', J, rv, q⟩ := hs
    exact fin J rv q
  | next =>
    obtain ⟨σ', H', J, q⟩ := hs
    exact fin (v := V.non) (u := Value.none) J rfl q
  | brk =>
    obtain ⟨_, _, _, q⟩ := hs
    exact q.elim
  | cont =>
    obtain ⟨_, _, _, q⟩ := hs
    exact q.elim
/-- the law called from outside, its def promised where no repr runs -/
theorem law_callG {P : Program} {w : World} {K : PySem.W.Frag} {mg mb : Str → Option Value} {CX : CXT} {k : Nat} {fa a : Addr} {fd : FuncData} {x : Str} {sp : Sp} {s₁ : Shared} {vs : List Value} {ns : List Int}
    (KX : K.In s₁.heap) (hns : s₁.heap.Ns mainGlobals mg) (hb : s₁.heap.Ns builtinsNs mb) (hbb : ∀ x : Str, x ≠ "__name__" → mb x = bootBuiltins x) (hlim : s₁.heap.NoLimit) (hg : s₁.gens = #[])
    (ha : s₁.heap.get? a = some { cls := .type "list", data := .seq vs.toArray }) (hi : IntsAre vs ns) (hl : ns.length ≤ sizeLine) (hr : Room k callerA)
    (F : ∀ base : Heap, K.In base → base.Ns mainGlobals mg → FnG P w K mg base CX k fa fd [x] sp) (hbind : ∀ (s : Shared) (u : Value), BindsTo s fd ⟨[u], []⟩ [(x, u)])
    (hsp : ∀ H : Hp, Only H → SqL K H a (ns.map V.int) → sp [.ref a] H (fun v _ => v = .bl true) fun _ _ _ => False)
    (hCX : ∀ H e s', CX [] H s₁ (fun _ _ _ => False) e s' → False) :
    codeAny (model P w) callerA (.call (.ref fa) ⟨[.ref a], []⟩) (fun r s' => r = .ok (.ret (.bool true)) ∧ OldK s₁.heap s'.heap ∧ s'.os = s₁.os ∧ AllBare s'.gens) s₁ := by
  have rv := vals_ints hi
  have lenV := hi.length
  -- H knows at most the script
  have main : ∀ H : Hp, Only H → SqL K H a (ns.map V.int) → HOk P w H s₁.heap → (∀ b, H b ≠ none → b = a) → (H a ≠ none → K.lookup a = none) →
      codeAny (model P w) callerA (.call (.ref fa) ⟨[.ref a], []⟩) (fun r s' => r = .ok (.ret (.bool true)) ∧ OldK s₁.heap s'.heap ∧ s'.os = s₁.os ∧ AllBare s'.gens) s₁ := by
    intro H hO hS hok hA hK
    have isA : ∀ {b : Addr} {u : HO}, H b = some u → b = a := fun {b u} q => hA b (by rw [q]; exact Option.some_ne_none u)
    have free : ∀ {b : Addr} {o : Obj}, s₁.heap.get? b = some o → (∀ xs n, o.data ≠ .seq xs n) → H b = none := fun {b o} e d => by
      cases q : H b with
      | none => rfl
      | some u =>
        rw [isA q, ha] at e
        cases e
        exact absurd rfl (d _ _)
    have nsK : ∀ {b : Addr} {m : Str → Option Value}, s₁.heap.Ns b m → (hidT s₁.heap H).Ns b m := fun {b m} ⟨o, es, ep, e, d, r⟩ => ⟨o, es, ep, hidT_get e (free e fun xs n z => by rw [d] at z; cases z), d, r⟩
    have inK : K.In (hidT s₁.heap H) := fun b o e => hidT_get (KX b o e) (by
      cases q : H b with
      | none => rfl
      | some u =>
        have z := hK (by rw [← isA q, q]; exact Option.some_ne_none u)
        rw [← isA q, e] at z
        exact nomatch z)
    have hM : Mod K mg (hidT s₁.heap H) := ⟨inK, nsK hns, ⟨mb, nsK hb, hbb⟩, let ⟨mc, h1, h2⟩ := hlim; ⟨mc, nsK h1, h2⟩⟩
    have e0 : Env0 P w K mg (hidT s₁.heap H) callerA [] s₁ H := ⟨rfl, hM, fun b o e => of_hidT e, Nat.le_of_eq (hidT_size _ _), trivial, fun b hb => absurd (show b ∈ ([] : List Addr) from hb) (by simp), hok, .of_eq hg⟩
    refine codeAny_mono ((F _ inK (nsK hns)).run callerA [] s₁ H ⟨[.ref a], []⟩ [.ref a] [.ref a] _ _ rfl hr e0 (hbind s₁ (.ref a)) (.cons rfl .nil) (hsp H hO hS)) fun r s' h => ?_
    rcases r with e | (_ | _ | _ | u)
    · exact (hCX H e s' h).elim
    · exact False.elim h
    · exact False.elim h
    · exact False.elim h
    · obtain ⟨v, H', os, bare, un, hok', r', rfl⟩ := h
      obtain rfl : u = Value.bool true := r'
      refine ⟨rfl, OldK.of_keep fun b o e => ?_, os, bare⟩
      cases q : H b with
      | none => exact un.keep b o e q (by intro z; exact absurd (show b ∈ ([] : List Addr) from z) (by simp)) (by simp)
      | some u =>
        rcases hO b with z | ⟨ob, xs, z⟩
        · rw [q] at z; cases z
        · obtain ⟨e1, _⟩ := hok b _ z
          obtain ⟨e2, _⟩ := hok' b _ (un.frzs b ob _ z)
          rw [e] at e1
          cases e1
          exact e2
  cases hk : K.lookup a with
  | some o =>
    have e := KX a o hk
    rw [ha] at e
    cases e
    exact main (fun _ => none) (fun _ => .inl rfl) (.inr ⟨_, vs.toArray, _, hk, rfl, rfl, rfl, by rw [List.size_toArray, lenV]; exact hl, by simpa using rv⟩) (fun b u z => by have z' : (none : Option HO) = some u := z; cases z') (fun b z => absurd rfl z) fun z => absurd rfl z
  | none =>
    have at1 : ∀ {b : Addr}, b = a → (if b = a then some (HO.frz { cls := .type "list", data := .seq vs.toArray } (.lst (ns.map V.int))) else none) = some (HO.frz { cls := .type "list", data := .seq vs.toArray } (.lst (ns.map V.int))) := fun h => if_pos h
    refine main (fun b => if b = a then some (.frz { cls := .type "list", data := .seq vs.toArray } (.lst (ns.map V.int))) else none) (fun b => ?_) (.inl (.inr ⟨_, if_pos rfl⟩)) (fun b u z => ?_) (fun b z => ?_) fun _ => hk
    · by_cases hb : b = a
      · exact .inr ⟨_, _, at1 hb⟩
      · exact .inl (if_neg hb)
    · by_cases hb : b = a
      · subst hb
        have z' := (at1 rfl).symm.trans z
        cases z'
        exact ⟨ha, by rw [List.length_map]; exact hl, vs, _, rv, ha⟩
      · have z' := (if_neg hb).symm.trans z
        cases z'
    · by_cases hb : b = a
      · exact hb
      · exact absurd (if_neg hb) z
/-- what k_head leaves, from such a promise -/
theorem walk_ofG {l : PySem.W.OpenLaw} {n k : Nat} {q : Program} {loose : List Str} {XP : (Str → Option Value) → Heap → Prop} {YP : World → Heap → Prop} {d : DefRec} {K : Params → PySem.W.Frag} {CX : World → CXT} {sp : World → Sp} {x : Str}
    (hn : l.most = some n) (hn2 : n ≤ sizeLine) (hdf : d.params.defaults = []) (hr : Room k callerA)
    (hY : ∀ (w : World) (h : Heap), YP w h → (K w.params).In h)
    (F : ∀ (w : World) (mg : Str → Option Value) (fa : Addr) (h : Heap), (K w.params).In h → h.Ns mainGlobals mg → mg d.name = some (.ref fa) →
      ∃ fd : FuncData, (∀ (s : Shared) (u : Value), BindsTo s fd ⟨[u], []⟩ [(x, u)]) ∧
        ∀ base : Heap, (K w.params).In base → base.Ns mainGlobals mg → FnG l.prog w (K w.params) mg base (CX w) k fa fd [x] (sp w))
    (hsp : ∀ (w : World) (H : Hp) (a : Addr) (ns : List Int), ns.length ≤ n → Only H → SqL (K w.params) H a (ns.map V.int) → sp w [.ref a] H (fun v _ => v = .bl true) fun _ _ _ => False)
    (hCX : ∀ (w : World) (H : Hp) (s : Shared) (e : Value) (s' : Shared), CX w [] H s (fun _ _ _ => False) e s' → False) :
    PySem.W.WalkO q loose XP YP l.row.toRowW d [] (fun f vs => PySem.call f vs) := by
  refine Att.attach_call hn hdf fun w s₀ s₁ mg mb fa o pm cd doc a vs ns G Y ho hd hcd hmg hobj hints hlen hg => ?_
  have KX := hY w _ Y
  obtain ⟨fd, hb, hF⟩ := F w mg fa _ KX G.T.g hmg
  exact law_callG KX G.T.g G.T.b G.T.builtins G.T.nolimit hg hobj hints (Nat.le_trans hlen hn2) hr hF hb (fun H hO hS => hsp w H a ns hlen hO hS) fun H e s' => hCX w H s₁ e s'
end K38

set_option Elab.async false
set_option linter.all false
set_option maxRecDepth 100000
/-! Txt: the program's top by places. -/
namespace K38
open PySem PySem.Spec PyProof.Rows L2
def topS (i : Nat) : Stmt := PySem.Challenge.pw_sharedunseen_k38_whole_matchings_of_tabl.main.body.getD i (.Pass ⟨0, 0, 0, 0⟩)
abbrev sRefused : Stmt := topS 3
abbrev sRefInit : Stmt := inClass (topS 3) 0
abbrev sIsInteger : Stmt := topS 5
abbrev sIsNumber : Stmt := topS 6
abbrev sIsBelow : Stmt := topS 7
abbrev sIsRow : Stmt := topS 8
abbrev sNeedShare : Stmt := topS 11
abbrev sInverse : Stmt := topS 12
abbrev sOrderOf : Stmt := topS 13
abbrev sOpposite : Stmt := topS 14
abbrev sIsMatching : Stmt := topS 15
abbrev sOrders : Stmt := topS 16
abbrev sCarried : Stmt := topS 17
abbrev sFirstMatching : Stmt := topS 18
abbrev sMatching : Stmt := topS 19
abbrev sHeap : Stmt := topS 21
abbrev sDraw : Stmt := topS 22
abbrev sPick : Stmt := topS 23
abbrev sOrder : Stmt := topS 24
abbrev sTable : Stmt := topS 25
abbrev sRenamed : Stmt := topS 26
abbrev sKinds : Stmt := topS 27
abbrev sNamed : Stmt := topS 28
abbrev sLOrders : Stmt := topS 29
abbrev sCommutes : Stmt := topS 30
abbrev sLeads : Stmt := topS 31
abbrev sFirst : Stmt := topS 32
abbrev sWords : Stmt := topS 33
abbrev sLeast : Stmt := topS 34
abbrev sWide : Stmt := topS 35
abbrev sLaw : Stmt := topS 36
end K38

set_option Elab.async false
set_option linter.all false
set_option maxRecDepth 100000
set_option maxHeartbeats 4000000
/-! Ru7: raise Refused(e): its __init__ says super().__init__('refused'), then self.word = word. -/
namespace K38
open PySem PySem.W PySem.Calls PyProof.Rows PySem.HandSPX
open L2 (inClass defArgs defBody defScope)
/-- what the written part says of Refused, at C, and of its __init__, at fI -/
structure RefTxt (prog : Program) (K : Frag) (mg : Str → Option Value) (C fI : Addr) : Prop where
  gC : mg "Refused" = some (.ref C)
  gS : mg "super" = none
  cls : ∃ nm q N bs bm sn sub ab col dd k0 k1 k2 k3 k5, K.lookup C = some (excClassObj nm q C N bs bm true sn sub ab col dd k0 k1 k2 k3 k5 "ValueError.__new__") ∧ refsVE bm = true
  sa : findIn K (.ref C) "__setattr__" = some (some (.builtin "object.__setattr__"))
  xf : L2.XfC K C
  noN : findIn K (.ref C) "word" = some none
  iC : findIn K (.ref C) "__init__" = some (some (.ref fI))
  tC : typeIn K (.ref fI) = some (.type "function")
  kC : keepIn K (.ref C) = true
  exC : subIn K (.ref C) (.type "BaseException") = some true
  veC : subIn K (.ref C) (.type "ValueError") = some true
  slf : mroIn K C (.ref C) = some true
  tyC : typeIn K (.ref C) = some (.type "type")
  te : exmOne K (.ref C) (.ref C) = some true
  thr : nsIn K cStatics "thirdparty.any" = some none
  sup : ks_superIn K C C "__init__" = some (some (.builtin "ValueError.__init__"))
  top : (prog.main.scope.names.lookup ("super" : Str)).isSome = false
  fn : ∃ (oc : Value) (od : Option Addr) (doc pm : Value) (an : Option Addr) (cda cc : Addr) (ct : Value) (osl : Array (Option Value)) (ccl : Value) (cdd : Option Addr) (vs : Array Value) (ccs : Array (Option Value)) (file : Str) (tf : Tok) (cl : Value) (cld : Option Addr) (csl : Array (Option Value)),
    K.lookup fI = some ⟨oc, od, .func (ksFn "__init__" "Refused.__init__" (defArgs sRefInit) (defBody sRefInit) (defScope sRefInit) .none .none doc pm an (.ref cda) ct cc), osl⟩ ∧ codeIn K (.ref cda) "Refused.__init__" = true ∧
    K.lookup cda = some ⟨ccl, cdd, .fields vs, ccs⟩ ∧ vs[2]? = some (.str file tf) ∧ ((prog.main.file : Str) == file) = true ∧ K.lookup cc = some ⟨cl, cld, .cell (some (.ref C)), csl⟩
/-- what __init__ leaves of a fresh exception at x -/
structure RefEnd (h h' : Heap) (x C dx t1 : Addr) (v : Value) : Prop where
  keep : ∀ b o, b ≠ x → h.get? b = some o → h'.get? b = some o
  obj : h'.get? x = some { cls := .ref C, dict := some dx, data := .fields #[.ref t1, .none, .none, .none, .bool false, .none] }
  dbig : h.objs.size ≤ dx
  dne : dx ≠ x
  ns : h'.Ns1 dx (fun y => if y = "word" then some v else none)
section
variable {prog : Program} {w : World} {A : Around} {E : Value → Shared → Prop} {h : Heap} {g : Array GenState} {d : Drawn} {t : Nat} {os : OsState}
variable {nm q : Str} {C N : Addr} {bs bm : List Value} {hdct : Bool} {sn : List Str} {sub : List Value} {ab : Bool} {col : Option Bool} {dd : Option Addr} {k0 k1 k2 k3 k5 : Option Value}
/-- the bound built-in __init__ called: the args are laid anew -/
theorem call_mw {u e t0 : Addr} {rest : List Value} {Q : Value → Shared → Prop}
    (hC : h.get? C = some (excClassObj nm q C N bs bm hdct sn sub ab col dd k0 k1 k2 k3 k5 "ValueError.__new__")) (he : h.get? e = some (excO C t0)) (hu : h.get? u = some (kxs_mw "ValueError.__init__" e)) (hrest : rest.length ≤ sizeLine)
    (hq : ∀ h' t1, (∀ b o, b ≠ e → h.get? b = some o → h'.get? b = some o) → h'.get? e = some (excO C t1) → Q .none ⟨h', g, d, t, os⟩) :
    wpAny (model prog w) A (call (.ref u) rest) Q E ⟨h, g, d, t, os⟩ := by
  refine wpAny_call (codeAny_of_tree ?_)
  show wpAny _ A.in1 (callAny (.ref u) ⟨rest, []⟩) _ _ _
  simp only [callAny]
  refine wpAny_bind (wpAny_load hu ?_)
  simp only [kxs_mw, show (Value.type "method-wrapper" == Value.type "method" || Value.type "method-wrapper" == Value.type "builtin_function_or_method" || Value.type "method-wrapper" == Value.type "method-wrapper") = true by decide, if_true]
  refine W.KFB.if_so (by decide) ?_
  refine wpAny_bind (ESX.check_bound F.excBase_ValueError hC he rfl ?_)
  refine wpAny_bind (wpAny_pure (wpAny_pure ?_))
  refine ⟨Code.quiet_builtin _ (by decide +kernel), codeAny_builtin F.excBase_ValueError.initEntry ?_⟩
  rw [Around.under_plainId F.excBase_ValueError.init.plain _]
  wp_walk
  refine hq _ h.objs.size (fun b o hb ho => ?_) ?_
  · rw [Heap.get?_update_other _ _ (Ne.symm hb)]
    exact Heap.get?_push_of_some _ ho
  · rw [Heap.get?_update_self _ (Heap.get?_push_of_some _ he) rfl]
    rfl
end
section
variable {prog : Program} {w : World} {A : Around} {E : Value → Shared → Prop} {R : Result → Shared → Prop} {s : Shared} {K : Frag} {mg : Str → Option Value} {C fI : Addr}
theorem ref_init (T : RefTxt prog K mg C fI) {x t0 : Addr} {v : Value} {mb : Str → Option Value} (X : K.In s.heap) (hlim : s.heap.NoLimit) (hg : s.heap.Ns mainGlobals mg) (hb : s.heap.Ns builtinsNs mb) (hbb : mb "super" = bootBuiltins "super")
    (hx : s.heap.get? x = some (excO C t0)) (hnx : K.lookup x = none) (hroom : A.depth < recursionLimit)
    (hq : ∀ h' tk dx t1, RefEnd s.heap h' x C dx t1 v → R (.ok (.ret .none)) { s with heap := h', toks := tk }) :
    codeAny (model prog w) A (.call (.ref fI) ⟨[.ref x, v], []⟩) R s := by
  obtain ⟨oc, od, doc, pm, an, cda, cc, ct, osl, ccl, cdd, vs, ccs, file, tf, cl, cld, csl, ho, hcd, hcode, hvs, hfile, hcell⟩ := T.fn
  obtain ⟨nm, q, N, bs, bm, sn, sub, ab, col, dd, k0, k1, k2, k3, k5, hC, hbm⟩ := T.cls
  have hcl : clsIn K C = some { name := nm, bases := bs, mro := .ref C :: bm, ns := N, qualname := q, hasDict := true, slotNames := sn, subclasses := sub, abstract := ab, collection := col, hasDel := false } := by unfold clsIn; rw [hC] <;> rfl
  refine ks_codeAny_call_defAt (fd := ksFn "__init__" "Refused.__init__" (defArgs sRefInit) (defBody sRefInit) (defScope sRefInit) .none .none doc pm an (.ref cda) ct cc) (body := defBody sRefInit) (binds := [("self", .ref x), ("word", v)])
    hroom (X _ _ ho) rfl hlim (codeRec_of X hcd) rfl (BindsTo.of_eq (by first | rfl | with_unfolding_all rfl)) (fun y hy => (show ∀ y ∈ (defScope sRefInit).names, y.2 ≠ .cell by decide +kernel) y hy) (fun y hy => ?_) (fun h₁ hns k => ?_) (by rfl) (by rfl) (by rfl)
  · rcases List.mem_cons.mp hy with z | hy
    · rw [z]; rfl
    · rw [List.mem_singleton.mp hy]; rfl
  have hx1 := k _ _ hx
  have X1 : K.In h₁ := X.keeps k
  have hI : InstAt h₁ x (excO C t0) C none := ⟨hx1, rfl, rfl, trivial⟩
  -- super().__init__('refused')
  refine ks_wpAt_execs_cons (ks_wpAt_Expr_any (ks_wpAt_MethodCall ?_))
  refine ks_wpAt_super_base (f := fI) (cc := cda) rfl rfl (by decide) rfl (X1 _ _ ho) rfl rfl rfl (X1 _ _ hcode) rfl hvs hfile T.top ?_
  refine ks_loadName_global rfl rfl (loadGlobal_builtin (hg.keeps k) T.gS (hb.keeps k) (hbb.trans ?_) ⟨rfl, ?_⟩)
  · decide +kernel
  refine wpAny_loadName_free rfl rfl rfl ⟨_, X1 _ _ hcell, rfl⟩ ?_
  refine wpAny_loadName_local rfl rfl hns (v := .ref x) rfl ?_
  refine ks_wpAny_isType_cls (X1 _ _ hC) rfl ⟨rfl, ?_⟩
  refine ks_wpAny_call_super (X1 _ _ hC) rfl hx1 rfl (fun c e => nomatch e) (looks_mroIn X1 T.slf) (fun h2 e2 k2 => ?_)
  have X2 : K.In h2 := X1.keeps k2
  have hx2 := k2 _ _ hx1
  have hI2 : InstAt h2 x (excO C t0) C none := ⟨hx2, rfl, rfl, trivial⟩
  have hxC : x ≠ C := ks_ne X2 hI2 hcl
  have hsup : alongIn K "__init__" (((Value.ref C :: bm).dropWhile (· != .ref C)).drop 1) = some (some (.builtin "ValueError.__init__")) := by
    have z := T.sup
    unfold ks_superIn at z
    rw [hcl] at z
    exact z
  have hmro : Looks (model prog w) h2 (mroOf (.ref C)) (.ref C :: bm) := (looks_clsIn X2 hcl).andThen .now
  have hinst : Looks (model prog w) h2 (isInstance (.ref x) (.type "ValueError")) true := hI2.type.andThen (looks_subIn X2 T.veC)
  refine kxs_getMethod kxs_ValueError e2 (looks_opaque X2 T.thr) hmro rfl X2 hsup hinst hxC (by decide) ?_
  -- the bound one called
  have hu : (h2.push (kxs_mw "ValueError.__init__" x)).get? h2.objs.size = some (kxs_mw "ValueError.__init__" x) := Heap.get?_push_at rfl rfl
  have k3 : ∀ b o, h2.get? b = some o → (h2.push (kxs_mw "ValueError.__init__" x)).get? b = some o := fun b o e => Heap.get?_push_of_some _ e
  show wpAny _ _ (callWith _ (.ref h2.objs.size) [] _ []) _ _ _
  refine kxs_callWith (i := "ValueError.__init__") (x := x) (by rfl) (evalArgs_plain ?_)
  refine args_cons (Calls.Constant_str (args_nil ⟨hu, ?_⟩)) rfl
  refine call_mw (k3 _ _ (X2 _ _ hC)) (k3 _ _ hx2) hu (show 1 ≤ sizeLine by decide) (fun h4 t1 k4 hx4 => ?_)
  -- self.word = word
  have X4 : K.In h4 := fun b o e => k4 b o (fun z => by rw [z, hnx] at e; cases e) (k3 _ _ (X2 b o e))
  have hLx : s.heap.objs.size ≠ x := Nat.ne_of_gt (Heap.lt_size hx)
  have hns4 : h4.Ns s.heap.objs.size (fun y => List.lookup y [((("self" : Str)), Value.ref x), ((("word" : Str)), v)].reverse) := by
    obtain ⟨oL, es, ep, hL, r⟩ := (hns.keeps k2).keeps k3
    exact ⟨oL, es, ep, k4 _ _ hLx hL, r⟩
  refine ks_wpAt_execs_cons (ks_wpAt_Assign_Attr ?_)
  refine wpAt_of_wpAny (wpAny_Name (wpAny_loadName_local rfl rfl hns4 (v := v) rfl ?_) (by decide))
  refine wpAny_Name (wpAny_loadName_local rfl rfl hns4 (v := .ref x) rfl ?_) (by decide)
  have hx5 : h4.get? x = some (excO C t1) := hx4
  refine set_plain X4 (ox := excO C t1) (od := none) ⟨hx5, rfl, rfl, trivial⟩ T.sa ?_
  refine exc_osa X4 hx5 hcl (show refsVE (.ref C :: bm) = true from hbm) rfl T.noN (fun h6 tk6 dx k6 dn dne hx6 hn6 => ?_)
  have z : s.heap.objs.size < h4.objs.size := hns4.lt
  exact wpAt_of_wpAny (wpAny_execs_nil (hq h6 tk6 dx t1 ⟨fun b o hb e => k6 b o hb (k4 b o hb (k3 _ _ (k2 _ _ (k _ _ e)))), hx6, Nat.le_of_lt (Nat.lt_of_lt_of_le z dn), dne, hn6⟩))
/-- a made Refused -/
structure RefMade (h h' : Heap) (e C d : Addr) (v : Value) : Prop where
  keep : ∀ b o, h.get? b = some o → h'.get? b = some o
  new : h.objs.size ≤ e
  obj : ∃ oe vs, h'.get? e = some oe ∧ oe.cls = .ref C ∧ oe.dict = some d ∧ oe.data = .fields vs ∧ vs[1]? = some .none
  dbig : h.objs.size ≤ d
  dne : d ≠ e
  ns : h'.Ns1 d (fun y => if y = "word" then some v else none)
theorem ref_made (T : RefTxt prog K mg C fI) {v : Value} {mb : Str → Option Value} (X : K.In s.heap) (hlim : s.heap.NoLimit) (hg : s.heap.Ns mainGlobals mg) (hb : s.heap.Ns builtinsNs mb) (hbb : mb "super" = bootBuiltins "super") (hroom : A.depth + 1 < recursionLimit)
    (hq : ∀ h' tk e d, RefMade s.heap h' e C d v → R (.ok (.ret (.ref e))) { s with heap := h', toks := tk }) :
    codeAny (model prog w) A (.call (.ref C) ⟨[v], []⟩) R s := by
  obtain ⟨nm, q, N, bs, bm, sn, sub, ab, col, dd, k0, k1, k2, k3, k5, hC, hbm⟩ := T.cls
  obtain ⟨hp, g, dr, tk, os⟩ := s
  have k : ∀ b o, hp.get? b = some o → ((hp.push (kdv_tup [v])).push (excO C hp.objs.size)).get? b = some o := fun b o e => Heap.get?_push_of_some _ (Heap.get?_push_of_some _ e)
  have hget : ((hp.push (kdv_tup [v])).push (excO C hp.objs.size)).get? (hp.objs.size + 1) = some (excO C hp.objs.size) := by heap_get
  have hnx : K.lookup (hp.objs.size + 1) = none := by
    cases e : K.lookup (hp.objs.size + 1) with
    | none => rfl
    | some o => exact absurd (Nat.lt_of_succ_lt (Heap.lt_size (X _ _ e : hp.get? (hp.objs.size + 1) = some o))) (Nat.lt_irrefl _)
  refine call_own F.excBase_ValueError (fun Y => refsVE_contains Y bm hbm) (X _ _ hC) (looks_findIn X T.iC) (fun self => bind_fn X self T.tC) (show 1 ≤ sizeLine by decide) ?_
  refine ref_init (s := ⟨(hp.push (kdv_tup [v])).push (excO C hp.objs.size), g, dr, tk, os⟩) T (X.keeps k) (hlim.keeps k) (hg.keeps k) (hb.keeps k) hbb hget hnx hroom fun h' tk' dx t1 M => ?_
  have old : ∀ b o, hp.get? b = some o → h'.get? b = some o := fun b o e => M.keep b o (Nat.ne_of_lt (Nat.lt_succ_of_lt (Heap.lt_size e))) (k b o e)
  have z : hp.objs.size + 1 + 1 ≤ dx := by
    have q := M.dbig
    rw [Heap.size_push, Heap.size_push] at q
    exact q
  exact ⟨rfl, hq h' tk' (hp.objs.size + 1) dx ⟨old, Nat.le_succ _, ⟨_, _, M.obj, rfl, rfl, rfl, rfl⟩, Nat.le_trans (Nat.le_trans (Nat.le_succ _) (Nat.le_succ _)) z, M.dne, M.ns⟩⟩
end
end K38
namespace K38
open PySem PySem.Spec PyProof.Rows L2
theorem rel_word {v : V} {u : Value} (r : RelV v u) (f : Str) : RelO (List.lookup f [(("word" : Str), v)]) (if f = "word" then some u else none) := by
  rw [lookup_put]
  by_cases h : f = "word"
  · rw [if_pos h, if_pos h]; exact r
  · rw [if_neg h, if_neg h]; trivial
section
variable {X : Cx} {C fI : Addr}
/-- Refused(e) -/
def tMkRef (C : Addr) (ta : TA) : L2.St → Hp → XK → Prop := fun σ H Q => ta σ H fun vs H1 => ∃ v, vs = [v] ∧ ∀ d, H1 d = none → Q (.ref C) (some d) (upd H1 d (.xd [(("word" : Str), v)]))
theorem pmk_ref {a : Expr} {ta : TA} {p pos : Pos} {k : Nat} (T : RefTxt X.prog X.K X.mg C fI) (hr : Room k X.A) (ha : PA X [a] ta) (hg : Gl X "Refused" := by rfl)
    (he : starEach (a :: []) X.env = (false, eval a X.env) :: starEach [] X.env := by rfl) (hpl : (backTo pos (starEach [] X.env)).any (·.1) = false := by rfl) :
    PMk X (.Call (.Name "Refused" p) [a] [] pos) (tMkRef C ta) := by
  intro pins s σ H Q I h
  refine wpAny_Call_Name_kw (ld_glob I hg T.gC ?_)
  refine PySem.W.callWith_K (h₀ := X.base) I.ok.mod.kin T.kC (thn (ha.run pos pins s σ H _ I h) fun us s1 hh => ?_) he hpl
  obtain ⟨vs, H1, I1, r1, v, rfl, q1⟩ := hh
  refine ⟨I1.kIn, ?_⟩
  obtain ⟨u, rfl, rv⟩ := vals1 r1
  show wpAny _ _ (call (.ref C) [u]) _ _ _
  have hlim := I1.nolimit
  have hgl : s1.heap.Ns mainGlobals X.mg := I1.mod.glob.keeps I1.bk
  obtain ⟨mb, hb0, hbb⟩ := I1.mod.blt
  have hb1 : s1.heap.Ns builtinsNs mb := hb0.keeps I1.bk
  obtain ⟨hp, g, dr, tk, os⟩ := s1
  refine wpAny_call (ref_made T I1.kIn hlim hgl hb1 (hbb "super" (by decide)) (by have := hr.dp; omega) fun h' tk' e d M => ?_)
  show MkP X pins σ Q (.ref e) ⟨h', g, dr, tk', os⟩
  obtain ⟨oe, fv, hoe, hc, hd, hdat, h1⟩ := M.obj
  have hns := M.ns
  obtain ⟨G, g1, g2⟩ := restrict h' fun b => decide (b ≠ e)
  have gk : ∀ b, b ≠ e → G.get? b = h'.get? b := fun b hb => g1 b (decide_eq_true hb)
  have ge : G.get? e = none := g2 e (by simp)
  have old : ∀ b o, hp.get? b = some o → G.get? b = some o := fun b o q => (gk b (Nat.ne_of_lt (Nat.lt_of_lt_of_le (Heap.lt_size q) M.new))).trans (M.keep b o q)
  have ob : ObjOk X.prog X.w (upd H1 d (.xd [(("word" : Str), v)])) G d (.xd [(("word" : Str), v)]) :=
    ⟨_, hns.at (fun o q => (gk d M.dne).trans q), fun f => rel_word rv f⟩
  have J : Inv X pins σ (upd H1 d (.xd [(("word" : Str), v)])) ⟨G, g, dr, tk', os⟩ := I1.laid (t' := tk') old M.dbig ob
  refine ⟨e, oe, fv, ⟨G, g, dr, tk', os⟩, _, .ref C, some d, rfl, J, fun b o q => ?_, ge, hoe, ⟨hc, hd⟩, hdat, h1, ?_, rfl, I1.bare, raises_own T.exC T.tyC, q1 d (I1.hok.fresh M.dbig)⟩
  · have q' : G.get? b = some o := q
    by_cases hb : b = e
    · rw [hb, ge] at q'; cases q'
    · exact (gk b hb).symm.trans q'
  · rw [upd_ne (Ne.symm M.dne)]
    exact I1.hok.fresh M.new
/-- raise Refused(e) -/
def tRaiseRef (C : Addr) (W : WX) (ta : TA) : TS := fun _ σ H => tMkRef C ta σ H fun cls d H' => W cls d σ H'
theorem ps_raiseRef {a : Expr} {ta : TA} {W : WX} {p pos pos2 : Pos} {k : Nat} (hc : X.calm = true) (T : RefTxt X.prog X.K X.mg C fI) (hr : Room k X.A) (tk : Takes X W) (ha : PA X [a] ta) (hg : Gl X "Refused" := by rfl)
    (he : starEach (a :: []) X.env = (false, eval a X.env) :: starEach [] X.env := by rfl) (hpl : (backTo pos (starEach [] X.env)).any (·.1) = false := by rfl) :
    PS X (.Raise (some (.Call (.Name "Refused" p) [a] [] pos)) none pos2) (tRaiseRef C W ta) := ps_raise hc tk (pmk_ref T hr ha hg he hpl)
end
end K38

set_option linter.all false
/-! M1: tables of groups as (n, m); orders; isomorphisms. Plain Lean. -/
namespace K38
/-- the k-th power, as order_of takes it: from the right -/
def pw (m : Nat → Nat → Nat) (x : Nat) : Nat → Nat
  | 0 => 0
  | k + 1 => m (pw m x k) x
structure Grp (n : Nat) (m : Nat → Nat → Nat) : Prop where
  pos : 0 < n
  lt : ∀ i j, i < n → j < n → m i j < n
  assoc : ∀ i j k, i < n → j < n → k < n → m (m i j) k = m i (m j k)
  idl : ∀ i, i < n → m 0 i = i
  idr : ∀ i, i < n → m i 0 = i
  fin : ∀ x, x < n → ∃ k, k < n ∧ pw m x (k + 1) = 0
section
variable {n : Nat} {m g : Nat → Nat → Nat}
theorem Grp.pw_lt (G : Grp n m) {x : Nat} (hx : x < n) : ∀ k, pw m x k < n
  | 0 => G.pos
  | k + 1 => G.lt _ _ (G.pw_lt hx k) hx
theorem Grp.pw_one (G : Grp n m) {x : Nat} (hx : x < n) : pw m x 1 = x := G.idl x hx
/-- powers from the left -/
theorem Grp.pw_left (G : Grp n m) {x : Nat} (hx : x < n) : ∀ k, pw m x (k + 1) = m x (pw m x k)
  | 0 => by rw [G.pw_one hx]; exact (G.idr x hx).symm
  | k + 1 => by
    show m (pw m x (k + 1)) x = m x (m (pw m x k) x)
    rw [G.pw_left hx k, G.assoc _ _ _ hx (G.pw_lt hx k) hx]
/-- the inverse -/
theorem Grp.inv (G : Grp n m) {x : Nat} (hx : x < n) : ∃ y, y < n ∧ m x y = 0 ∧ m y x = 0 := by
  obtain ⟨k, _, h⟩ := G.fin x hx
  exact ⟨pw m x k, G.pw_lt hx k, by rw [← G.pw_left hx k]; exact h, h⟩
theorem Grp.cancel_l (G : Grp n m) {x y z : Nat} (hx : x < n) (hy : y < n) (hz : z < n) (h : m x y = m x z) : y = z := by
  obtain ⟨w, hw, _, h2⟩ := G.inv hx
  have e : m w (m x y) = m w (m x z) := by rw [h]
  rw [← G.assoc _ _ _ hw hx hy, ← G.assoc _ _ _ hw hx hz, h2, G.idl y hy, G.idl z hz] at e
  exact e
theorem Grp.cancel_r (G : Grp n m) {x y z : Nat} (hx : x < n) (hy : y < n) (hz : z < n) (h : m y x = m z x) : y = z := by
  obtain ⟨w, hw, h1, _⟩ := G.inv hx
  have e : m (m y x) w = m (m z x) w := by rw [h]
  rw [G.assoc _ _ _ hy hx hw, G.assoc _ _ _ hz hx hw, h1, G.idr y hy, G.idr z hz] at e
  exact e
/-- k is the order of x -/
def IsOrd (m : Nat → Nat → Nat) (x k : Nat) : Prop := 1 ≤ k ∧ pw m x k = 0 ∧ ∀ j, 1 ≤ j → j < k → pw m x j ≠ 0
theorem IsOrd.uniq {x k l : Nat} (h1 : IsOrd m x k) (h2 : IsOrd m x l) : k = l := by
  rcases Nat.lt_trichotomy k l with h | h | h
  · exact absurd h1.2.1 (h2.2.2 k h1.1 h)
  · exact h
  · exact absurd h2.2.1 (h1.2.2 l h2.1 h)
theorem least_of {P : Nat → Prop} : ∀ b : Nat, (∃ k, k < b ∧ P k) → ∃ k, k < b ∧ P k ∧ ∀ j, j < k → ¬ P j := by
  intro b
  induction b with
  | zero => rintro ⟨k, h, _⟩; exact absurd h (Nat.not_lt_zero _)
  | succ b ih =>
    rintro ⟨k, h, hp⟩
    by_cases hb : ∃ k, k < b ∧ P k
    · obtain ⟨k, h1, h2, h3⟩ := ih hb
      exact ⟨k, Nat.lt_succ_of_lt h1, h2, h3⟩
    · refine ⟨k, h, hp, fun j hj hpj => hb ⟨j, by omega, hpj⟩⟩
theorem Grp.ord (G : Grp n m) {x : Nat} (hx : x < n) : ∃ k, k ≤ n ∧ IsOrd m x k := by
  obtain ⟨k, h1, h2, h3⟩ := least_of (P := fun k => pw m x (k + 1) = 0) n (G.fin x hx)
  refine ⟨k + 1, h1, by omega, h2, fun j hj hjk => ?_⟩
  have := h3 (j - 1) (by omega)
  rw [show j - 1 + 1 = j by omega] at this
  exact this
open Classical in
/-- the order -/
noncomputable def od (n : Nat) (m : Nat → Nat → Nat) (x : Nat) : Nat := if h : ∃ k, k ≤ n ∧ IsOrd m x k then h.choose else 0
theorem Grp.od_is (G : Grp n m) {x : Nat} (hx : x < n) : od n m x ≤ n ∧ IsOrd m x (od n m x) := by
  have h := G.ord hx
  unfold od
  rw [dif_pos h]
  exact h.choose_spec
theorem Grp.od_eq (G : Grp n m) {x k : Nat} (hx : x < n) (h : IsOrd m x k) : od n m x = k := (G.od_is hx).2.uniq h

/-! ### isomorphisms -/
structure Iso (n : Nat) (m g : Nat → Nat → Nat) (f : Nat → Nat) : Prop where
  lt : ∀ i, i < n → f i < n
  inj : ∀ i j, i < n → j < n → f i = f j → i = j
  hom : ∀ i j, i < n → j < n → f (m i j) = g (f i) (f j)
theorem Iso.zero {f : Nat → Nat} (h : Iso n m g f) (G : Grp n m) (G' : Grp n g) : f 0 = 0 := by
  have h0 := h.lt 0 G.pos
  have e := h.hom 0 0 G.pos G.pos
  rw [G.idl 0 G.pos] at e
  have e2 : g (f 0) 0 = g (f 0) (f 0) := by rw [G'.idr _ h0]; exact e
  exact (G'.cancel_l h0 G'.pos h0 e2).symm
theorem Iso.pw {f : Nat → Nat} (h : Iso n m g f) (G : Grp n m) (G' : Grp n g) {x : Nat} (hx : x < n) : ∀ k, pw g (f x) k = f (pw m x k)
  | 0 => (h.zero G G').symm
  | k + 1 => by
    show g (K38.pw g (f x) k) (f x) = f (m (K38.pw m x k) x)
    rw [h.pw G G' hx k, h.hom _ _ (G.pw_lt hx k) hx]
theorem Iso.ord {f : Nat → Nat} (h : Iso n m g f) (G : Grp n m) (G' : Grp n g) {x k : Nat} (hx : x < n) (o : IsOrd m x k) : IsOrd g (f x) k := by
  refine ⟨o.1, by rw [h.pw G G' hx, o.2.1]; exact h.zero G G', fun j h1 h2 e => o.2.2 j h1 h2 ?_⟩
  rw [h.pw G G' hx, ← h.zero G G'] at e
  exact h.inj _ _ (G.pw_lt hx j) G.pos e
theorem Iso.od {f : Nat → Nat} (h : Iso n m g f) (G : Grp n m) (G' : Grp n g) {x : Nat} (hx : x < n) : od n g (f x) = od n m x :=
  G'.od_eq (h.lt x hx) (h.ord G G' hx (G.od_is hx).2)

/-! ### lists of numbers below n, each once -/
theorem nodup_map_of {f : Nat → Nat} : ∀ {l : List Nat}, l.Nodup → (∀ i ∈ l, ∀ j ∈ l, f i = f j → i = j) → (l.map f).Nodup
  | [], _, _ => List.nodup_nil
  | a :: r, h, hi => by
    obtain ⟨h1, h2⟩ := List.nodup_cons.mp h
    refine List.nodup_cons.mpr ⟨fun hm => ?_, nodup_map_of h2 fun i hi1 j hj1 => hi i (List.mem_cons_of_mem _ hi1) j (List.mem_cons_of_mem _ hj1)⟩
    obtain ⟨b, hb, e⟩ := List.mem_map.mp hm
    exact h1 (hi b (List.mem_cons_of_mem _ hb) a List.mem_cons_self e ▸ hb)
/-- n unlike numbers below n are all of them -/
theorem full_of_nodup {n : Nat} {l : List Nat} (hn : l.Nodup) (hl : ∀ x ∈ l, x < n) (hlen : n ≤ l.length) : l.Perm (List.range n) := by
  have sub : ∀ x, x ∈ List.range n → x ∈ l := by
    intro x hx
    by_cases h : x ∈ l
    · exact h
    · exfalso
      have h2 : (x :: l).Nodup := List.nodup_cons.mpr ⟨h, hn⟩
      have h3 : (x :: l).length ≤ (List.range n).length := List.Nodup.length_le_of_subset h2 fun y hy => by
        rcases List.mem_cons.mp hy with z | z
        · rw [z]; exact hx
        · exact List.mem_range.mpr (hl y z)
      rw [List.length_range, List.length_cons] at h3
      omega
  exact (List.perm_ext_iff_of_nodup hn List.nodup_range).mpr fun x => ⟨fun h => List.mem_range.mpr (hl x h), sub x⟩
theorem nodup_len_le {n : Nat} {l : List Nat} (hn : l.Nodup) (hl : ∀ x ∈ l, x < n) : l.length ≤ n := by
  have := List.Nodup.length_le_of_subset (l₂ := List.range n) hn fun x hx => List.mem_range.mpr (hl x hx)
  rw [List.length_range] at this
  exact this
theorem Iso.perm {f : Nat → Nat} (h : Iso n m g f) : ((List.range n).map f).Perm (List.range n) := by
  refine full_of_nodup (nodup_map_of List.nodup_range fun i hi j hj e => h.inj i j (List.mem_range.mp hi) (List.mem_range.mp hj) e) (fun x hx => ?_) ?_
  · obtain ⟨i, hi, e⟩ := List.mem_map.mp hx
    rw [← e]
    exact h.lt i (List.mem_range.mp hi)
  · rw [List.length_map, List.length_range]
    exact Nat.le_refl _
theorem Iso.surj {f : Nat → Nat} (h : Iso n m g f) {y : Nat} (hy : y < n) : ∃ x, x < n ∧ f x = y := by
  have : y ∈ (List.range n).map f := h.perm.mem_iff.mpr (List.mem_range.mpr hy)
  obtain ⟨x, hx, e⟩ := List.mem_map.mp this
  exact ⟨x, List.mem_range.mp hx, e⟩
/-- all orders, as ints -/
noncomputable def ods (n : Nat) (m : Nat → Nat → Nat) : List Int := (List.range n).map fun x => (od n m x : Int)
theorem ods_len : (ods n m).length = n := by unfold ods; rw [List.length_map, List.length_range]
theorem Iso.ods {f : Nat → Nat} (h : Iso n m g f) (G : Grp n m) (G' : Grp n g) : (ods n m).Perm (ods n g) := by
  have e : K38.ods n m = ((List.range n).map f).map fun x => (K38.od n g x : Int) := by
    unfold K38.ods
    rw [List.map_map]
    refine List.map_congr_left fun x hx => ?_
    show (K38.od n m x : Int) = (K38.od n g (f x) : Int)
    rw [h.od G G' (List.mem_range.mp hx)]
  rw [e]
  exact h.perm.map _
def Comm (n : Nat) (m : Nat → Nat → Nat) : Prop := ∀ i j, i < n → j < n → m i j = m j i
theorem Iso.comm {f : Nat → Nat} (h : Iso n m g f) (G : Grp n m) : Comm n m ↔ Comm n g := by
  constructor
  · intro c y z hy hz
    obtain ⟨i, hi, rfl⟩ := h.surj hy
    obtain ⟨j, hj, rfl⟩ := h.surj hz
    rw [← h.hom i j hi hj, ← h.hom j i hj hi, c i j hi hj]
  · intro c i j hi hj
    refine h.inj _ _ (G.lt i j hi hj) (G.lt j i hj hi) ?_
    rw [h.hom i j hi hj, h.hom j i hj hi]
    exact c _ _ (h.lt i hi) (h.lt j hj)

/-! ### the first one -/
def LexLt (n : Nat) (f f' : Nat → Nat) : Prop := ∃ k, k < n ∧ (∀ i, i < k → f i = f' i) ∧ f k < f' k
def Same_n (n : Nat) (f f' : Nat → Nat) : Prop := ∀ i, i < n → f i = f' i
structure Least (n : Nat) (P : (Nat → Nat) → Prop) (f : Nat → Nat) : Prop where
  is : P f
  le : ∀ f', P f' → Same_n n f f' ∨ LexLt n f f'
theorem lex_asymm {f f' : Nat → Nat} (h1 : LexLt n f f') (h2 : LexLt n f' f) : False := by
  obtain ⟨k, hk, a, b⟩ := h1
  obtain ⟨l, hl, c, d⟩ := h2
  rcases Nat.lt_trichotomy k l with h | h | h
  · have := c k h; omega
  · subst h; omega
  · have := a l h; omega
theorem Least.uniq {P : (Nat → Nat) → Prop} {f f' : Nat → Nat} (h : Least n P f) (h' : Least n P f') : Same_n n f f' := by
  rcases h.le f' h'.is with z | z
  · exact z
  · rcases h'.le f h.is with y | y
    · exact fun i hi => (y i hi).symm
    · exact (lex_asymm z y).elim
theorem same_map {f f' : Nat → Nat} (h : Same_n n f f') : (List.range n).map (fun i => (f i : Int)) = (List.range n).map (fun i => (f' i : Int)) :=
  List.map_congr_left fun i hi => by rw [h i (List.mem_range.mp hi)]
/-- the identity is the first of all -/
theorem least_id {m : Nat → Nat → Nat} {f : Nat → Nat} (h : Least n (Iso n m m) f) : Same_n n f (fun i => i) := by
  have id_iso : Iso n m m (fun i => i) → Same_n n f (fun i => i) := by
    intro hi
    rcases h.le _ hi with z | z
    · exact z
    · obtain ⟨k, hk, a, b⟩ := z
      exfalso
      have b2 : f k < k := b
      have e : f (f k) = f k := a (f k) b2
      have := h.is.inj (f k) k (by omega) hk e
      omega
  exact id_iso ⟨fun i hi => hi, fun i j _ _ e => e, fun i j _ _ => rfl⟩
/-- compositions -/
theorem Iso.comp {k : Nat → Nat → Nat} {f f' : Nat → Nat} (h : Iso n m g f) (h' : Iso n g k f') : Iso n m k (fun i => f' (f i)) :=
  ⟨fun i hi => h'.lt _ (h.lt i hi), fun i j hi hj e => h.inj i j hi hj (h'.inj _ _ (h.lt i hi) (h.lt j hj) e), fun i j hi hj => by
    show f' (f (m i j)) = k (f' (f i)) (f' (f j))
    rw [h.hom i j hi hj, h'.hom _ _ (h.lt i hi) (h.lt j hj)]⟩
open Classical in
theorem Iso.symm {f : Nat → Nat} (h : Iso n m g f) (G : Grp n m) : ∃ f', Iso n g m f' ∧ ∀ i, i < n → f' (f i) = i := by
  have key : ∀ y, ∃ x, y < n → x < n ∧ f x = y := fun y => by
    by_cases hy : y < n
    · obtain ⟨x, h1, h2⟩ := h.surj hy
      exact ⟨x, fun _ => ⟨h1, h2⟩⟩
    · exact ⟨0, fun z => absurd z hy⟩
  refine ⟨fun y => (key y).choose, ⟨fun y hy => ((key y).choose_spec hy).1, fun y z hy hz e => ?_, fun y z hy hz => ?_⟩, fun i hi => ?_⟩
  · have a := ((key y).choose_spec hy).2
    have b := ((key z).choose_spec hz).2
    rw [← a, ← b]
    exact congrArg f e
  · have hyz : g y z < n := by
      have a := ((key y).choose_spec hy)
      have b := ((key z).choose_spec hz)
      rw [← a.2, ← b.2, ← h.hom _ _ a.1 b.1]
      exact h.lt _ (G.lt _ _ a.1 b.1)
    have c := (key (g y z)).choose_spec hyz
    have a := (key y).choose_spec hy
    have b := (key z).choose_spec hz
    refine h.inj _ _ c.1 (G.lt _ _ a.1 b.1) ?_
    show f (key (g y z)).choose = f (m (key y).choose (key z).choose)
    rw [c.2, h.hom _ _ a.1 b.1, a.2, b.2]
  · have c := (key (f i)).choose_spec (h.lt i hi)
    exact h.inj _ _ c.1 hi c.2
end
/-- a group carried along a renaming -/
theorem Grp.carry {n : Nat} {m g : Nat → Nat → Nat} {p : Nat → Nat} (G : Grp n m) (h : Iso n m g p) (h0 : p 0 = 0) : Grp n g := by
  have sur := fun {y} (hy : y < n) => h.surj hy
  refine ⟨G.pos, fun y z hy hz => ?_, fun y z w hy hz hw => ?_, fun y hy => ?_, fun y hy => ?_, fun y hy => ?_⟩
  · obtain ⟨i, hi, rfl⟩ := sur hy
    obtain ⟨j, hj, rfl⟩ := sur hz
    rw [← h.hom i j hi hj]
    exact h.lt _ (G.lt i j hi hj)
  · obtain ⟨i, hi, rfl⟩ := sur hy
    obtain ⟨j, hj, rfl⟩ := sur hz
    obtain ⟨k, hk, rfl⟩ := sur hw
    rw [← h.hom i j hi hj, ← h.hom j k hj hk, ← h.hom _ _ (G.lt i j hi hj) hk, ← h.hom _ _ hi (G.lt j k hj hk), G.assoc i j k hi hj hk]
  · obtain ⟨i, hi, rfl⟩ := sur hy
    have e := h.hom 0 i G.pos hi
    rw [h0, G.idl i hi] at e
    exact e.symm
  · obtain ⟨i, hi, rfl⟩ := sur hy
    have e := h.hom i 0 hi G.pos
    rw [h0, G.idr i hi] at e
    exact e.symm
  · obtain ⟨i, hi, rfl⟩ := sur hy
    obtain ⟨k, h1, h2⟩ := G.fin i hi
    have e : ∀ k, pw g (p i) k = p (pw m i k) := by
      intro k
      induction k with
      | zero => exact h0.symm
      | succ k ih =>
        show g (pw g (p i) k) (p i) = p (m (pw m i k) i)
        rw [ih, h.hom _ _ (G.pw_lt hi k) hi]
    exact ⟨k, h1, by rw [e, h2]; exact h0⟩
end K38

set_option Elab.async false
set_option linter.all false
set_option maxRecDepth 100000
set_option maxHeartbeats 2000000
/-! Hp1: how tables, tuples of numbers, kinds of values stand in the heap. -/
namespace K38
open PySem PySem.Spec PyProof.Rows L2

/-- the built-ins that the program names are still the built-ins -/
structure Bn (mg : Str → Option Value) : Prop where
  isinstance : mg "isinstance" = none
  int : mg "int" = none
  bool : mg "bool" = none
  tuple : mg "tuple" = none
  len : mg "len" = none
  all : mg "all" = none
  set : mg "set" = none
  enumerate : mg "enumerate" = none
  range : mg "range" = none
  sorted : mg "sorted" = none
  list : mg "list" = none
  dict : mg "dict" = none
  max : mg "max" = none
  abs : mg "abs" = none
  repr : mg "repr" = none
  str : mg "str" = none
theorem b_int : bootBuiltins "int" = some (.type "int") := by decide +kernel
theorem b_bool : bootBuiltins "bool" = some (.type "bool") := by decide +kernel
theorem b_tuple : bootBuiltins "tuple" = some (.type "tuple") := by decide +kernel
theorem b_list : bootBuiltins "list" = some (.type "list") := by decide +kernel
theorem b_dict : bootBuiltins "dict" = some (.type "dict") := by decide +kernel
theorem b_str : bootBuiltins "str" = some (.type "str") := by decide +kernel
theorem b_isinstance : bootBuiltins "isinstance" = some (.builtin "isinstance") := by decide +kernel
theorem b_all : bootBuiltins "all" = some (.builtin "all") := by decide +kernel
theorem b_len : bootBuiltins "len" = some (.builtin "len") := by decide +kernel
theorem b_sorted : bootBuiltins "sorted" = some (.builtin "sorted") := by decide +kernel
theorem b_max : bootBuiltins "max" = some (.builtin "max") := by decide +kernel
theorem b_abs : bootBuiltins "abs" = some (.builtin "abs") := by decide +kernel
theorem b_repr : bootBuiltins "repr" = some (.builtin "repr") := by decide +kernel

section
variable {K : PySem.W.Frag} {H H' : Hp} {a : Addr} {xs : List V}
theorem same_new {p : Addr} {o : HO} (h : H p = none) : Same H (upd H p o) := fun b x e => by
  rw [upd_ne (ne_of_none e h)]
  exact e
theorem sameT (e : Same H H') (h : SqT K H a xs) : SqT K H' a xs := by
  rcases h with (h | ⟨o, h⟩) | h
  · exact .inl (.inl (e _ _ h))
  · exact .inl (.inr ⟨o, e _ _ h⟩)
  · exact .inr h
theorem seqT_new {p : Addr} : SqT K (upd H p (.tup xs)) p xs := .inl (.inl upd_same)
theorem seqL_new {p : Addr} : SqL K (upd H p (.lst xs)) p xs := .inl (.inl upd_same)
end

/-! ### kinds of values -/
def isInt : V → Bool
  | .int _ => true
  | _ => false
def isBl : V → Bool
  | .bl _ => true
  | _ => false
/-- a value whose type is known well enough for the program's tests -/
def Known (K : PySem.W.Frag) (H : Hp) (x : V) (tup : Bool) : Prop :=
  ∃ t : String, TyX K H x (.type t) ∧ kitB t "int" = some (isInt x || isBl x) ∧ kitB t "bool" = some (isBl x) ∧ kitB t "tuple" = some tup
section
variable {K : PySem.W.Frag} {H H' : Hp} {a : Addr} {xs : List V}
theorem known_int (i : Int) : Known K H (.int i) false := ⟨"int", .base (.int i), (by decide +kernel : kitB "int" "int" = some true), (by decide +kernel : kitB "int" "bool" = some false), by decide +kernel⟩
theorem known_bl (b : Bool) : Known K H (.bl b) false := ⟨"bool", .base (.bl b), (by decide +kernel : kitB "bool" "int" = some true), (by decide +kernel : kitB "bool" "bool" = some true), by decide +kernel⟩
theorem known_non : Known K H .non false := ⟨"NoneType", .base .non, by decide +kernel, by decide +kernel, by decide +kernel⟩
theorem known_str (x : Str) : Known K H (.str x) false := ⟨"str", .base (.str x), (by decide +kernel : kitB "str" "int" = some false), (by decide +kernel : kitB "str" "bool" = some false), by decide +kernel⟩
theorem known_lst (h : H a = some (.lst xs)) : Known K H (.ref a) false := ⟨"list", .base (.lst h), (by decide +kernel : kitB "list" "int" = some false), (by decide +kernel : kitB "list" "bool" = some false), by decide +kernel⟩
theorem tyx_tup (h : SqT K H a xs) : TyX K H (.ref a) (.type "tuple") := by
  rcases h with (h | ⟨o, h⟩) | ⟨o, its, n, h1, h2, h3, h4, h5⟩
  · exact .base (.tup h)
  · exact .fTuple h
  · exact .kTuple h1 h2
theorem known_tup (h : SqT K H a xs) : Known K H (.ref a) true := ⟨"tuple", tyx_tup h, (by decide +kernel : kitB "tuple" "int" = some false), (by decide +kernel : kitB "tuple" "bool" = some false), by decide +kernel⟩
end

/-! ### tables -/
/-- the row of i -/
def rowV (n : Nat) (m : Nat → Nat → Nat) (i : Nat) : List V := (List.range n).map fun j => V.int (m i j : Nat)
/-- at a: the table of n shares with the products m -/
def TabAt (K : PySem.W.Frag) (H : Hp) (a : Addr) (n : Nat) (m : Nat → Nat → Nat) : Prop :=
  ∃ rs : List Addr, rs.length = n ∧ SqT K H a (rs.map V.ref) ∧ ∀ (i : Nat) (r : Addr), rs[i]? = some r → SqT K H r (rowV n m i)
section
variable {K : PySem.W.Frag} {H H' : Hp} {a : Addr} {n : Nat} {m : Nat → Nat → Nat}
theorem TabAt.same (h : TabAt K H a n m) (e : Same H H') : TabAt K H' a n m := by
  obtain ⟨rs, h1, h2, h3⟩ := h
  exact ⟨rs, h1, sameT e h2, fun i r q => sameT e (h3 i r q)⟩
theorem rowV_len (i : Nat) : (rowV n m i).length = n := by unfold rowV; rw [List.length_map, List.length_range]
theorem rowV_at {i j : Nat} (hj : j < n) : (rowV n m i)[j]? = some (.int (m i j : Nat)) := by
  unfold rowV
  rw [List.getElem?_map, List.getElem?_range hj]
  rfl
theorem rowV_int (i : Nat) : rowV n m i = ((List.range n).map fun j => (m i j : Int)).map V.int := by
  unfold rowV
  rw [List.map_map]
  rfl
/-- the row of i stands at some r -/
theorem TabAt.row (h : TabAt K H a n m) {i : Nat} (hi : i < n) : ∃ (rs : List Addr) (r : Addr), rs.length = n ∧ SqT K H a (rs.map V.ref) ∧ (rs.map V.ref)[i]? = some (.ref r) ∧ SqT K H r (rowV n m i) := by
  obtain ⟨rs, h1, h2, h3⟩ := h
  have e : rs[i]? = some (rs[i]'(by omega)) := List.getElem?_eq_getElem (by omega)
  exact ⟨rs, _, h1, h2, by rw [List.getElem?_map, e]; rfl, h3 i _ e⟩
theorem TabAt.len (h : TabAt K H a n m) : ∃ xs : List V, SqT K H a xs ∧ xs.length = n := by
  obtain ⟨rs, h1, h2, h3⟩ := h
  exact ⟨_, h2, by rw [List.length_map]; exact h1⟩
end
/-- table[i][j] as a reading: two numbers, one below the size -/
theorem ix_tab {K : PySem.W.Frag} {σ : L2.St} {H : Hp} {Q : VK} {ta ti tj : TE} {a : Addr} {n : Nat} {m : Nat → Nat → Nat} {i j : Nat} (h : TabAt K H a n m) (hi : i < n) (hj : j < n)
    (ea : ∀ Q : VK, Q (.ref a) H → ta σ H Q) (ei : ∀ Q : VK, Q (.int (i : Nat)) H → ti σ H Q) (ej : ∀ Q : VK, Q (.int (j : Nat)) H → tj σ H Q) (q : Q (.int (m i j : Nat)) H) :
    tOp (rIxT K) (tOp (rIxT K) ta ti) tj σ H Q := by
  obtain ⟨rs, r, h1, h2, h3, h4⟩ := h.row hi
  refine ea _ (ei _ ⟨a, _, (i : Nat), .ref r, rfl, rfl, h2, atI_nat h3, ej _ ⟨r, _, (j : Nat), _, rfl, rfl, h4, atI_nat (rowV_at hj), q⟩⟩)
/-- a comprehension's turn without tests -/
theorem tyes {σ : L2.St} {H : Hp} {A B : Hp → Prop} (h : A H) : tYes σ H fun b H3 => if b = true then A H3 else B H3 := by
  show (if true = true then A H else B H)
  rw [if_pos rfl]
  exact h
/-- a tuple of numbers -/
def tupF (n : Nat) (f : Nat → Nat) : List Int := (List.range n).map fun i => (f i : Int)
theorem tupF_at {n i : Nat} {f : Nat → Nat} (hi : i < n) : (tupF n f)[i]? = some (f i : Int) := by
  unfold tupF
  rw [List.getElem?_map, List.getElem?_range hi]
  rfl
theorem tupF_len {n : Nat} {f : Nat → Nat} : (tupF n f).length = n := by unfold tupF; rw [List.length_map, List.length_range]
theorem sz {n : Nat} (h : n ≤ 100000) : n ≤ sizeLine := Nat.le_trans h (by decide)
theorem szl {n : Nat} (h : n < 100000) : n < sizeLine := Nat.lt_of_lt_of_le h (by decide)
end K38

set_option Elab.async false
set_option linter.all false
set_option maxRecDepth 100000
set_option maxHeartbeats 4000000
/-! D1: is_integer, is_number, is_below, is_row, need_share, inverse, order_of, orders. -/
namespace K38
open PySem PySem.Spec PyProof.Rows L2
/-- a def of the text, where it stands, how it is called -/
structure Df (K : PySem.W.Frag) (mg : Str → Option Value) (x : Str) (st : Stmt) (ps : List Str) (f : Addr) (fd : FuncData) : Prop where
  F : Fun K x x st f fd
  g : mg x = some (.ref f)
  b : Binds K fd ps []
theorem scIsInteger : FnScope ["value"] ["value"] (defScope sIsInteger) := ⟨rfl, rfl, rfl, by decide +kernel, rfl, by decide +kernel, by decide +kernel⟩
theorem scIsNumber : FnScope ["value"] ["value"] (defScope sIsNumber) := ⟨rfl, rfl, rfl, by decide +kernel, rfl, by decide +kernel, by decide +kernel⟩
theorem scIsBelow : FnScope ["value", "bound"] ["value", "bound"] (defScope sIsBelow) := ⟨rfl, rfl, rfl, by decide +kernel, rfl, by decide +kernel, by decide +kernel⟩
theorem scIsRow : FnScope ["value", "size", "bound", "item"] ["value", "size", "bound"] (defScope sIsRow) := ⟨rfl, rfl, rfl, by decide +kernel, rfl, by decide +kernel, by decide +kernel⟩
def numB : V → Bool
  | .int i => decide (0 ≤ i)
  | _ => false
def belowB (b : Int) : V → Bool
  | .int i => decide (0 ≤ i) && decide (i < b)
  | _ => false
theorem numB_no {x : V} (h : isInt x = false) : numB x = false := by cases x <;> first | rfl | cases h
theorem belowB_no {x : V} {b : Int} (h : numB x = false) : belowB b x = false := by
  cases x with
  | int i =>
    have e : decide (0 ≤ i) = false := h
    show (decide (0 ≤ i) && decide (i < b)) = false
    rw [e]; rfl
  | _ => rfl
theorem isInt_is {x : V} (h : isInt x = true) : ∃ i, x = .int i := by
  cases x with
  | int i => exact ⟨i, rfl⟩
  | _ => cases h
section
variable {P : Program} {w : World} {K : PySem.W.Frag} {mg : Str → Option Value} {base : Heap}
def spIsInteger (K : PySem.W.Frag) : Sp := fun vs H Q _ => ∃ (x : V) (t : Bool), vs = [x] ∧ Known K H x t ∧ Q (.bl (isInt x)) H
theorem ok_isInteger {f : Addr} {fd : FuncData} (B : Bn mg) (D : Df K mg "is_integer" sIsInteger ["value"] f fd) : FnOk P w K mg base CX0 1 f fd ["value"] (spIsInteger K) := by
  refine D.F.ok scIsInteger (fun vs H Q E h => ?_) (fun cdv A outer s H vs Q E hr h => ?_)
  · obtain ⟨x, t, rfl, _⟩ := h
    rfl
  · obtain ⟨x, t, rfl, hk, q⟩ := h
    refine ⟨_, pss_one (ps_ret (pe_and (pe_callB call_isi (by rfl) B.isinstance b_isinstance (pa_cons (pv 0) (pa_cons (pe_bltn (v := .ty "int") (by rfl) B.int b_int rfl) pa_nil)))
      (pe_one (pe_not (pe_callB call_isi (by rfl) B.isinstance b_isinstance (pa_cons (pv 0) (pa_cons (pe_bltn (v := .ty "bool") (by rfl) B.bool b_bool rfl) pa_nil))))))), ?_⟩
    obtain ⟨ty, h1, h2, h3, h4⟩ := hk
    refine ⟨x, rfl, x, .ty "int", .type ty, .type "int", _, rfl, .ty _, h1, kit_ty h2, _, rfl, ?_⟩
    cases x with
    | int i => exact iteT ⟨_, rfl, _, .ty "bool", .type ty, .type "bool", _, rfl, .ty _, h1, kit_ty h3, _, rfl, q⟩
    | bl b => exact iteT ⟨_, rfl, _, .ty "bool", .type ty, .type "bool", _, rfl, .ty _, h1, kit_ty h3, _, rfl, q⟩
    | _ => exact iteF q
def spIsNumber (K : PySem.W.Frag) : Sp := fun vs H Q _ => ∃ (x : V) (t : Bool), vs = [x] ∧ Known K H x t ∧ Q (.bl (numB x)) H
theorem ok_isNumber {f fI : Addr} {fd fdI : FuncData} (B : Bn mg) (DI : Df K mg "is_integer" sIsInteger ["value"] fI fdI) (D : Df K mg "is_number" sIsNumber ["value"] f fd) : FnOk P w K mg base CX0 2 f fd ["value"] (spIsNumber K) := by
  refine D.F.ok scIsNumber (fun vs H Q E h => ?_) (fun cdv A outer s H vs Q E hr h => ?_)
  · obtain ⟨x, t, rfl, _⟩ := h
    rfl
  · obtain ⟨x, t, rfl, hk, q⟩ := h
    refine ⟨_, pss_one (ps_ret (pe_and (pe_call (ok_isInteger B DI) hr (by rfl) DI.g DI.F.kp DI.b .nil pass0 (pa_cons (pv 0) pa_nil)) (pe_one (pe_cmpR op_ge (pv 0) pe_int (nomark _))))), ?_⟩
    refine ⟨x, rfl, x, t, rfl, hk, _, rfl, ?_⟩
    by_cases hi : isInt x = true
    · obtain ⟨i, rfl⟩ := isInt_is hi
      exact iteT ⟨_, rfl, i, 0, rfl, rfl, q⟩
    · have hi : isInt x = false := by simpa using hi
      rw [hi]
      rw [numB_no hi] at q
      exact iteF q
def spIsBelow (K : PySem.W.Frag) : Sp := fun vs H Q _ => ∃ (x : V) (t : Bool) (b : Int), vs = [x, .int b] ∧ Known K H x t ∧ Q (.bl (belowB b x)) H
theorem ok_isBelow {f fI fN : Addr} {fd fdI fdN : FuncData} (B : Bn mg) (DI : Df K mg "is_integer" sIsInteger ["value"] fI fdI) (DN : Df K mg "is_number" sIsNumber ["value"] fN fdN)
    (D : Df K mg "is_below" sIsBelow ["value", "bound"] f fd) : FnOk P w K mg base CX0 3 f fd ["value", "bound"] (spIsBelow K) := by
  refine D.F.ok scIsBelow (fun vs H Q E h => ?_) (fun cdv A outer s H vs Q E hr h => ?_)
  · obtain ⟨x, t, b, rfl, _⟩ := h
    rfl
  · obtain ⟨x, t, b, rfl, hk, q⟩ := h
    refine ⟨_, pss_one (ps_ret (pe_and (pe_call (ok_isNumber B DI DN) hr (by rfl) DN.g DN.F.kp DN.b .nil pass0 (pa_cons (pv 0) pa_nil)) (pe_one (pe_cmpR op_lt (pv 0) (pv 1) (nomark _))))), ?_⟩
    refine ⟨x, rfl, x, t, rfl, hk, _, rfl, ?_⟩
    by_cases hi : numB x = true
    · obtain ⟨i, rfl⟩ : ∃ i, x = .int i := by cases x <;> first | exact ⟨_, rfl⟩ | cases hi
      rw [hi]
      refine iteT ⟨_, rfl, _, rfl, i, b, rfl, rfl, ?_⟩
      have e : belowB b (.int i) = decide (i < b) := by
        show (decide (0 ≤ i) && decide (i < b)) = _
        rw [show decide (0 ≤ i) = true from hi, Bool.true_and]
      rw [e] at q
      exact q
    · have hi : numB x = false := by simpa using hi
      rw [hi]
      rw [belowB_no hi] at q
      exact iteF q
/-- is_row(value, size, bound) -/
def spIsRow (K : PySem.W.Frag) : Sp := fun vs H Q _ => ∃ (x : V) (n : Nat) (b : Int), vs = [x, .int (n : Nat), .int b] ∧
  ((Known K H x false ∧ Q (.bl false) H) ∨ ∃ (a : Addr) (xs : List V), x = .ref a ∧ SqT K H a xs ∧ (∀ y ∈ xs, ∃ t, Known K H y t) ∧ xs.length ≤ 1000 ∧ ∀ H', Same H H' → Q (.bl (decide (xs.length = n) && xs.all (belowB b))) H')
theorem known_same {H H' : Hp} {x : V} {t : Bool} (e : Same H H') (h : Known K H x t) : Known K H' x t := by
  obtain ⟨ty, h1, h2⟩ := h
  refine ⟨ty, ?_, h2⟩
  cases h1 with
  | base h =>
    cases h with
    | non => exact .base .non
    | bl b => exact .base (.bl b)
    | int i => exact .base (.int i)
    | str x => exact .base (.str x)
    | flt x => exact .base (.flt x)
    | lst z => exact .base (.lst (e _ _ z))
    | frz z => exact .base (.frz (e _ _ z))
    | tup z => exact .base (.tup (e _ _ z))
    | dK z => exact .base (.dK (e _ _ z))
    | dT z => exact .base (.dT (e _ _ z))
  | byt b => exact .byt b
  | set z => exact .set (e _ _ z)
  | kList z c => exact .kList z c
  | kTuple z c => exact .kTuple z c
  | kDict z c => exact .kDict z c
  | fTuple z => exact .fTuple (e _ _ z)
  | fDict z => exact .fDict (e _ _ z)
theorem ok_isRow {f fI fN fB : Addr} {fd fdI fdN fdB : FuncData} (B : Bn mg) (DI : Df K mg "is_integer" sIsInteger ["value"] fI fdI) (DN : Df K mg "is_number" sIsNumber ["value"] fN fdN)
    (DB : Df K mg "is_below" sIsBelow ["value", "bound"] fB fdB) (D : Df K mg "is_row" sIsRow ["value", "size", "bound"] f fd) : FnOk P w K mg base CX0 4 f fd ["value", "size", "bound"] (spIsRow K) := by
  refine D.F.ok scIsRow (fun vs H Q E h => ?_) (fun cdv A outer s H vs Q E hr h => ?_)
  · obtain ⟨x, n, b, rfl, _⟩ := h
    rfl
  · obtain ⟨x, n, b, rfl, h⟩ := h
    refine ⟨_, pss_one (ps_ret (pe_and (pe_callB call_isi (by rfl) B.isinstance b_isinstance (pa_cons (pv 0) (pa_cons (pe_bltn (v := .ty "tuple") (by rfl) B.tuple b_tuple rfl) pa_nil)))
      (pe_and (pe_cmpR op_eq (pe_callB call_len_seq (by rfl) B.len b_len (pa_cons (pv 0) pa_nil)) (pv 1) (nomark _))
      (pe_one (pe_callB (cr_all rfl) (by rfl) B.all b_all (pa_cons (pe_lc (own := [("item", 3)]) (g := gName 3) (tt := tYes) rfl scIsRow.nd (pi_tup (pv 0)) (blkOk_by (N := ["value", "size", "bound", "item"]) (sc := defScope sIsRow) (by decide +kernel))
        (fun _ _ _ _ _ => pg_name (i := 3) scIsRow.nd rfl (Or.inl rfl)) (fun _ _ _ _ _ => pts_nil)
        (fun _ _ _ _ _ => pe_call (ok_isBelow B DI DN DB) hr (by rfl) DB.g DB.F.kp DB.b .nil pass0 (pa_cons (pv 3) (pa_cons (pv 2) pa_nil)))) pa_nil)))))), ?_⟩
    rcases h with ⟨hk, q⟩ | ⟨a, xs, rfl, hS, hkn, hz, q⟩
    · obtain ⟨ty, h1, h2, h3, h4⟩ := hk
      exact ⟨x, rfl, x, .ty "tuple", .type ty, .type "tuple", _, rfl, .ty _, h1, kit_ty h4, _, rfl, iteF q⟩
    · obtain ⟨ty, h1, h2, h3, h4⟩ := known_tup hS
      refine ⟨.ref a, rfl, .ref a, .ty "tuple", .type ty, .type "tuple", _, rfl, .ty _, h1, kit_ty h4, _, rfl, iteT ?_⟩
      refine ⟨.ref a, rfl, a, xs, rfl, .inr hS, .int (n : Nat), rfl, rfl, _, rfl, ?_⟩
      have el : decide (V.int (xs.length : Nat) = V.int (n : Nat)) = decide (xs.length = n) := by
        by_cases h : xs.length = n
        · rw [h, decide_eq_true rfl, decide_eq_true rfl]
        · rw [decide_eq_false h, decide_eq_false]
          intro z
          exact h (Int.ofNat.inj (V.int.inj z))
      rw [el]
      by_cases hl : xs.length = n
      · rw [decide_eq_true hl]
        rw [decide_eq_true hl] at q
        refine iteT ⟨.ref a, rfl, a, rfl, ⟨_, hS⟩, fun D hD => ?_⟩
        refine lc_it (walk_tup (xs := xs)) (fun i H1 => Same H H1 ∧ H1 D = some (.lst ((xs.take i).map fun y => V.bl (belowB b y)))) ⟨same_new hD, upd_same⟩ (fun i H1 _ h => sameT h.1 hS) (fun i y H1 H2 hi hP hY => ?_) (fun H1 hP => ?_)
        · obtain ⟨rfl, hy⟩ := hY
          obtain ⟨t, kt⟩ := hkn y (List.mem_of_getElem? hy)
          refine ⟨rfl, tyes ⟨y, rfl, .int b, rfl, y, t, b, rfl, known_same hP.1 kt, _, hP.2, ?_, ?_, ?_⟩⟩
          · rw [List.length_map, List.length_take]
            exact szl (by omega)
          · intro c o e
            rw [upd_ne (ne_of_none e hD)]
            exact hP.1 c o e
          · rw [upd_same, List.take_add_one, hy, List.map_append]
            rfl
        · refine ⟨D, xs.map (belowB b), rfl, ?_, ?_⟩
          · rw [List.take_length] at hP
            refine .inl (.inl ?_)
            rw [hP.2, List.map_map]
            rfl
          · have z := q H1 hP.1
            rw [Bool.true_and] at z
            rw [List.all_map]
            exact z
      · rw [decide_eq_false hl]
        rw [decide_eq_false hl] at q
        exact iteF (q H (Same.refl H))
end
end K38

set_option Elab.async false
set_option linter.all false
set_option maxRecDepth 100000
set_option maxHeartbeats 4000000
/-! Ru8: a tuple whose object is known to have no dict (made by tuple(list)): its methods. -/
namespace K38
open PySem PySem.Spec PyProof.Rows L2
/-- at a: a tuple without a dict of its own -/
def ZT (H : Hp) (a : Addr) (ys : List V) : Prop := ∃ o : Obj, H a = some (.frz o (.tup ys)) ∧ o.dict = none
theorem ZT.seq {K : PySem.W.Frag} {H : Hp} {a : Addr} {ys : List V} (h : ZT H a ys) : SqT K H a ys := by
  obtain ⟨o, h, _⟩ := h
  exact .inl (.inr ⟨o, h⟩)
theorem ZT.same {H H' : Hp} {a : Addr} {ys : List V} (h : ZT H a ys) (e : Same H H') : ZT H' a ys := by
  obtain ⟨o, h, d⟩ := h
  exact ⟨o, e _ _ h, d⟩
section
variable {X : Cx}
theorem call_tupZ : CallR X (.type "tuple") (fun xs H Q => ∃ p ys, xs = [.ref p] ∧ SqL X.K H p ys ∧ ∀ l o, H l = none → o.dict = none → Q (.ref l) (upd H l (.frz o (.tup ys)))) := by
  intro pins s σ H xs us Q I r h
  obtain ⟨p, ys, rfl, hq, q⟩ := h
  obtain ⟨u, rfl, rx⟩ := vals1 r
  cases rx
  obtain ⟨its, rv, pl, hz⟩ := I.list hq
  have hlen := rv.length
  refine call_tuple_list pl.isList (fun h1 kp => ?_) (by rw [List.size_toArray]; omega)
  have I1 : Inv X pins σ H { s with heap := h1 } := I.kept (t' := s.toks) kp
  have hget : (h1.push { cls := .type "tuple", data := .seq its.toArray }).get? h1.objs.size = some { cls := .type "tuple", data := .seq its.toArray } := Heap.get?_push_size _ rfl
  have I2 : Inv X pins σ (upd H h1.objs.size (.frz { cls := .type "tuple", data := .seq its.toArray } (.tup ys))) { s with heap := h1.push { cls := .type "tuple", data := .seq its.toArray } } :=
    I1.laid (t' := s.toks) (o := .frz { cls := .type "tuple", data := .seq its.toArray } (.tup ys)) (fun b o e => Heap.get?_push_of_some _ e) (Nat.le_refl _) ⟨hget, hz, its, rv, IsTup.new _ _⟩
  exact ⟨.ref h1.objs.size, _, I2, rfl, q _ _ (I1.hok.fresh (Nat.le_refl _)) rfl⟩
def tBMZ (r : V → List V → Hp → VK → Prop) (to : TE) (t : TA) : TE := fun σ H Q => to σ H fun x H1 => (∃ a ys, x = .ref a ∧ ZT H1 a ys) ∧ t σ H1 fun xs H2 => r x xs H2 Q
theorem pe_bmZ {o e : Expr} {es : List Expr} {to : TE} {t : TA} {name : Str} {apos cpos : Pos} {id : String} {r : V → List V → Hp → VK → Prop} (slot : Slot "tuple" name id) (hty : typeOf (.builtin id) = pure (.type "method_descriptor")) (hm : MtR X id r) (ho : PE X o to) (ha : PA X (e :: es) t)
    (hbase : attributeBase o name X.env (eval o X.env) = eval o X.env := by rfl)
    (hfew : ((backTo cpos (starEach (e :: es) X.env)).all (fun x => !x.1) && (backToKw cpos (keywordEach [] X.env)).all (fun x => x.1.isSome)
      && decide ((e :: es).length + ([] : List Keyword).length + (if ([] : List Keyword).isEmpty then 0 else 1) < 30)) = true := by rfl)
    (hline : (apos.endLine == cpos.line) = true := by rfl) (hs : starEach (e :: es) X.env = (false, eval e X.env) :: starEach es X.env := by rfl) (hplain : (backTo cpos (starEach es X.env)).any (·.1) = false := by rfl) :
    PE X (.Call (.Attribute o name apos) (e :: es) [] cpos) (tBMZ r to t) := by
  refine ⟨fun pins s σ H Q I h => ?_⟩
  refine wpAny_Call_method_late hbase hfew hline rfl (thn (ho.run pins s σ H _ I h) fun v s1 ⟨x, H1, I1, r1, ⟨a, ys, ex, oz, hz, hd⟩, q1⟩ => ?_)
  subst ex
  have ev : v = Value.ref a := r1
  obtain ⟨g1, g2, its, rv, og, g3, g4, n, g5⟩ := I1.hok a _ hz
  refine ⟨"tuple", id, PySem.F.plainAttrs_tuple, slot, hty, ?_, fun b e => ?_, ?_⟩
  · rw [ev]; exact ⟨og, g3, g4⟩
  · rw [ev] at e
    cases e
    exact ⟨oz, g1, hd⟩
  have hA := ha.run cpos pins s1 σ H1 _ I1 q1
  rw [hs] at hA ⊢
  refine Calls.callWith_builtin (by show (false || (backTo cpos (starEach es X.env)).any (·.1)) = false; rw [hplain]; rfl) (Calls.evalArgs_plain ?_)
  exact thn hA fun us s2 ⟨vs, H2, I2, r2, q2⟩ => hm pins s2 σ H2 (.ref a) vs v us Q I2 r1 r2 q2
end
/-- the table at a, its rows without dicts of their own -/
def TabZ (K : PySem.W.Frag) (H : Hp) (a : Addr) (n : Nat) (m : Nat → Nat → Nat) : Prop :=
  ∃ rs : List Addr, rs.length = n ∧ SqT K H a (rs.map V.ref) ∧ ∀ (i : Nat) (r : Addr), rs[i]? = some r → ZT H r (rowV n m i)
section
variable {K : PySem.W.Frag} {H H' : Hp} {a : Addr} {n : Nat} {m : Nat → Nat → Nat}
theorem TabZ.tab (h : TabZ K H a n m) : TabAt K H a n m := by
  obtain ⟨rs, h1, h2, h3⟩ := h
  exact ⟨rs, h1, h2, fun i r q => (h3 i r q).seq⟩
theorem TabZ.same (h : TabZ K H a n m) (e : Same H H') : TabZ K H' a n m := by
  obtain ⟨rs, h1, h2, h3⟩ := h
  exact ⟨rs, h1, sameT e h2, fun i r q => (h3 i r q).same e⟩
theorem TabZ.row (h : TabZ K H a n m) {i : Nat} (hi : i < n) : ∃ (rs : List Addr) (r : Addr), rs.length = n ∧ SqT K H a (rs.map V.ref) ∧ (rs.map V.ref)[i]? = some (.ref r) ∧ ZT H r (rowV n m i) := by
  obtain ⟨rs, h1, h2, h3⟩ := h
  have e : rs[i]? = some (rs[i]'(by omega)) := List.getElem?_eq_getElem (by omega)
  exact ⟨rs, _, h1, h2, by rw [List.getElem?_map, e]; rfl, h3 i _ e⟩
end
end K38

set_option Elab.async false
set_option linter.all false
set_option maxRecDepth 100000
set_option maxHeartbeats 4000000
/-! D2: need_share, inverse, order_of, orders, opposite. -/
namespace K38
open PySem PySem.Spec PyProof.Rows L2
theorem scNeedShare : FnScope ["table", "value"] ["table", "value"] (defScope sNeedShare) := ⟨rfl, rfl, rfl, by decide +kernel, rfl, by decide +kernel, by decide +kernel⟩
theorem scInverse : FnScope ["table", "one"] ["table", "one"] (defScope sInverse) := ⟨rfl, rfl, rfl, by decide +kernel, rfl, by decide +kernel, by decide +kernel⟩
theorem scOrderOf : FnScope ["table", "one", "many", "found"] ["table", "one"] (defScope sOrderOf) := ⟨rfl, rfl, rfl, by decide +kernel, rfl, by decide +kernel, by decide +kernel⟩
theorem scOrders : FnScope ["table", "share"] ["table"] (defScope sOrders) := ⟨rfl, rfl, rfl, by decide +kernel, rfl, by decide +kernel, by decide +kernel⟩
theorem scOpposite : FnScope ["table", "at", "row"] ["table"] (defScope sOpposite) := ⟨rfl, rfl, rfl, by decide +kernel, rfl, by decide +kernel, by decide +kernel⟩
/-- the four small defs -/
structure Low (K : PySem.W.Frag) (mg : Str → Option Value) (fI fN fB : Addr) (fdI fdN fdB : FuncData) : Prop where
  B : Bn mg
  I : Df K mg "is_integer" sIsInteger ["value"] fI fdI
  N : Df K mg "is_number" sIsNumber ["value"] fN fdN
  W : Df K mg "is_below" sIsBelow ["value", "bound"] fB fdB
theorem below_yes {i : Nat} {n : Nat} (h : i < n) : belowB (n : Nat) (.int (i : Nat)) = true := by
  show (decide ((0 : Int) ≤ (i : Nat)) && decide (((i : Nat) : Int) < (n : Nat))) = true
  rw [decide_eq_true (by omega), decide_eq_true (by omega)]
  rfl
theorem walk_range0 {n : Nat} : Walk (Itr 0 n) n (fun _ => True) (YFn fun i => .int (i : Nat)) :=
  walk_range.mono (fun _ h => h) fun i H x H' _ _ y => by
    obtain ⟨rfl, e⟩ := y
    refine ⟨rfl, e.trans ?_⟩
    show V.int (0 + (i : Nat)) = V.int (i : Nat)
    rw [Int.zero_add]
section
variable {P : Program} {w : World} {K : PySem.W.Frag} {mg : Str → Option Value} {base : Heap} {fI fN fB : Addr} {fdI fdN fdB : FuncData}
def spNeedShare (K : PySem.W.Frag) : Sp := fun vs H Q _ => ∃ (a : Addr) (n i : Nat) (m : Nat → Nat → Nat), vs = [.ref a, .int (i : Nat)] ∧ TabAt K H a n m ∧ i < n ∧ Q .non H
theorem ok_needShare {f : Addr} {fd : FuncData} (L : Low K mg fI fN fB fdI fdN fdB) (D : Df K mg "need_share" sNeedShare ["table", "value"] f fd) : FnOk P w K mg base CX0 4 f fd ["table", "value"] (spNeedShare K) := by
  refine D.F.ok scNeedShare (fun vs H Q E h => ?_) (fun cdv A outer s H vs Q E hr h => ?_)
  · obtain ⟨a, n, i, m, rfl, _⟩ := h
    rfl
  · obtain ⟨a, n, i, m, rfl, ht, hi, q⟩ := h
    refine ⟨_, pss_one (ps_if (pt_not (pt_val (pe_call (ok_isBelow L.B L.I L.N L.W) hr (by rfl) L.W.g L.W.F.kp L.W.b .nil pass0 (pa_cons (pv 1) (pa_cons (pe_callB call_len_seq (by rfl) L.B.len b_len (pa_cons (pv 0) pa_nil)) pa_nil))))) pss_never pss_nil), ?_⟩
    obtain ⟨xs, h1, h2⟩ := ht.len
    refine ⟨.int (i : Nat), rfl, .ref a, rfl, a, xs, rfl, .inr h1, .int (i : Nat), false, (n : Nat), by rw [h2]; rfl, known_int _, true, by rw [below_yes hi], iteF q⟩
def spInverse (K : PySem.W.Frag) : Sp := fun vs H Q _ => ∃ (a : Addr) (n i j : Nat) (m : Nat → Nat → Nat), vs = [.ref a, .int (i : Nat)] ∧ TabZ K H a n m ∧ i < n ∧ j < n ∧ m i j = 0 ∧ (∀ k, k < j → m i k ≠ 0) ∧ Q (.int (j : Nat)) H
theorem ok_inverse {f fS : Addr} {fd fdS : FuncData} (L : Low K mg fI fN fB fdI fdN fdB) (DS : Df K mg "need_share" sNeedShare ["table", "value"] fS fdS) (D : Df K mg "inverse" sInverse ["table", "one"] f fd) : FnOk P w K mg base CX0 5 f fd ["table", "one"] (spInverse K) := by
  refine D.F.ok scInverse (fun vs H Q E h => ?_) (fun cdv A outer s H vs Q E hr h => ?_)
  · obtain ⟨a, n, i, j, m, rfl, _⟩ := h
    rfl
  · obtain ⟨a, n, i, j, m, rfl, ht, hi, hj, hz, hno, q⟩ := h
    refine ⟨_, pss_cons (ps_expr (pe_call (ok_needShare L DS) hr (by rfl) DS.g DS.F.kp DS.b .nil pass0 (pa_cons (pv 0) (pa_cons (pv 1) pa_nil))))
      (pss_one (ps_ret (pe_bmZ PySem.F.slot_tuple_index PySem.F.type_tuple_index mt_tup_indexI (pe_ix ix_tup (pv 0) (pv 1) (fun _ _ => rfl)) (pa_cons pe_int pa_nil)))), ?_⟩
    refine ⟨.ref a, rfl, .int (i : Nat), rfl, a, n, i, m, rfl, ht.tab, hi, ?_⟩
    obtain ⟨rs, r, h1, h2, h3, h4⟩ := ht.row hi
    refine ⟨.ref a, rfl, .int (i : Nat), rfl, a, _, (i : Nat), .ref r, rfl, rfl, h2, atI_nat h3, ⟨r, _, rfl, h4⟩, r, (List.range n).map (fun j => (m i j : Int)), 0, j, rfl, rfl, by rw [← rowV_int]; exact h4.seq, ?_, ?_, q⟩
    · rw [List.getElem?_map, List.getElem?_range hj]
      show some ((m i j : Nat) : Int) = some 0
      rw [hz]
      rfl
    · intro k hk e
      rw [List.getElem?_map, List.getElem?_range (by omega)] at e
      have e2 : ((m i k : Nat) : Int) = 0 := Option.some.inj e
      exact hno k hk (by omega)
def spOrderOf (K : PySem.W.Frag) : Sp := fun vs H Q _ => ∃ (a : Addr) (n i : Nat) (m : Nat → Nat → Nat), vs = [.ref a, .int (i : Nat)] ∧ TabAt K H a n m ∧ Grp n m ∧ i < n ∧ Q (.int (od n m i : Nat)) H
theorem ok_orderOf {f fS : Addr} {fd fdS : FuncData} (L : Low K mg fI fN fB fdI fdN fdB) (DS : Df K mg "need_share" sNeedShare ["table", "value"] fS fdS) (D : Df K mg "order_of" sOrderOf ["table", "one"] f fd) : FnOk P w K mg base CX0 5 f fd ["table", "one"] (spOrderOf K) := by
  refine D.F.ok scOrderOf (fun vs H Q E h => ?_) (fun cdv A outer s H vs Q E hr h => ?_)
  · obtain ⟨a, n, i, m, rfl, _⟩ := h
    rfl
  · obtain ⟨a, n, i, m, rfl, ht, G, hi, q⟩ := h
    refine ⟨_, pss_cons (ps_expr (pe_call (ok_needShare L DS) hr (by rfl) DS.g DS.F.kp DS.b .nil pass0 (pa_cons (pv 0) (pa_cons (pv 1) pa_nil))))
      (pss_cons (ps_par (i := 2) (j := 3) rfl scOrderOf.nd rfl rfl (by decide) rfl rfl (pa_cons pe_int (pa_cons (pv 1) pa_nil)) (by rfl))
      (pss_cons (ps_while PassesOwn.never (pt_cmpR op_ne (pv 3) pe_int (nomark _)) (pss_one (ps_par (i := 2) (j := 3) rfl scOrderOf.nd rfl rfl (by decide) rfl rfl (pa_cons (pe_op op_add (pv 2) pe_int) (pa_cons (pe_ix ix_tup (pe_ix ix_tup (pv 0) (pv 3) (fun _ _ => rfl)) (pv 1) (fun _ _ => rfl)) pa_nil)) (by rfl))))
      (pss_one (ps_ret (pv 2))))), ?_⟩
    obtain ⟨hle, ho⟩ := G.od_is hi
    refine ⟨.ref a, rfl, .int (i : Nat), rfl, a, n, i, m, rfl, ht, hi, ?_⟩
    refine ⟨.int (i : Nat), rfl, _, _, rfl, ?_⟩
    refine ⟨fun k σ H1 => ∃ t, 1 ≤ t ∧ t + k = od n m i ∧ H1 = H ∧ σ = [some (.ref a), some (.int (i : Nat)), some (.int (t : Nat)), some (.int (pw m i t : Nat))], ⟨od n m i - 1, 1, Nat.le_refl 1, by have := ho.1; omega, rfl, by rw [G.pw_one hi]; rfl⟩, fun k σ H1 hW => ?_⟩
    obtain ⟨t, h1, h2, rfl, rfl⟩ := hW
    refine ⟨.int (pw m i t : Nat), rfl, rfl, _, rfl, ite2 (fun e => ?_) (fun e => ?_)⟩
    · have ne : pw m i t ≠ 0 := fun z => by
        rw [z] at e
        exact absurd e (by decide)
      have hlt : t < od n m i := Nat.lt_of_le_of_ne (by omega) fun z => ne (z ▸ ho.2.1)
      refine ⟨fun σ' H' => ∃ u, u = t + 1 ∧ H' = H1 ∧ σ' = [some (.ref a), some (.int (i : Nat)), some (.int (u : Nat)), some (.int (pw m i u : Nat))], fun σ' H' hN => ?_, ?_⟩
      · obtain ⟨u, rfl, rfl, rfl⟩ := hN
        exact ⟨k - 1, by omega, t + 1, by omega, by omega, rfl, rfl⟩
      · refine ⟨_, rfl, _, 1, rfl, rfl, ?_⟩
        refine ix_tab (i := pw m i t) (j := i) ht (G.pw_lt hi t) hi (fun Q q => ⟨_, rfl, q⟩) (fun Q q => ⟨_, rfl, q⟩) (fun Q q => ⟨_, rfl, q⟩) ?_
        exact ⟨_, _, rfl, t + 1, rfl, rfl, rfl⟩
    · have z : pw m i t = 0 := by
        by_cases z : pw m i t = 0
        · exact z
        · exfalso
          apply e
          rw [show decide (V.int (pw m i t : Nat) = V.int 0) = false from decide_eq_false fun y => z (Int.ofNat.inj (V.int.inj y))]
          rfl
      have : t = od n m i := (G.od_eq hi ⟨h1, z, fun j hj hjt => ho.2.2 j hj (by omega)⟩).symm
      subst this
      exact ⟨_, rfl, q⟩
def spOrders (K : PySem.W.Frag) : Sp := fun vs H Q _ => ∃ (a : Addr) (n : Nat) (m : Nat → Nat → Nat), vs = [.ref a] ∧ TabAt K H a n m ∧ Grp n m ∧ n ≤ 1000 ∧ ∀ p H', Same H H' → H p = none → H' p = some (.lst ((ods n m).map V.int)) → Q (.ref p) H'
theorem ok_orders {f fS fO : Addr} {fd fdS fdO : FuncData} (L : Low K mg fI fN fB fdI fdN fdB) (DS : Df K mg "need_share" sNeedShare ["table", "value"] fS fdS) (DO : Df K mg "order_of" sOrderOf ["table", "one"] fO fdO)
    (D : Df K mg "orders" sOrders ["table"] f fd) : FnOk P w K mg base CX0 6 f fd ["table"] (spOrders K) := by
  refine D.F.ok scOrders (fun vs H Q E h => ?_) (fun cdv A outer s H vs Q E hr h => ?_)
  · obtain ⟨a, n, m, rfl, _⟩ := h
    rfl
  · obtain ⟨a, n, m, rfl, ht, G, hz, q⟩ := h
    refine ⟨_, pss_one (ps_ret (pe_lc (own := [("share", 1)]) (g := gName 1) (tt := tYes) rfl scOrders.nd (pi_range1 (by rfl) L.B.range (pa_cons (pe_callB call_len_seq (by rfl) L.B.len b_len (pa_cons (pv 0) pa_nil)) pa_nil)) (blkOk_by (N := ["table", "share"]) (sc := defScope sOrders) (by decide +kernel))
      (fun _ _ _ _ _ => pg_name (i := 1) scOrders.nd rfl (Or.inl rfl)) (fun _ _ _ _ _ => pts_nil)
      (fun _ _ _ _ _ => pe_call (ok_orderOf L DS DO) hr (by rfl) DO.g DO.F.kp DO.b .nil pass0 (pa_cons (pv 0) (pa_cons (pv 1) pa_nil))))), ?_⟩
    obtain ⟨xs, h1, h2⟩ := ht.len
    refine ⟨.ref a, rfl, a, xs, rfl, .inr h1, (n : Nat), by rw [h2], by omega, by omega, fun D hD => ?_⟩
    rw [Int.toNat_natCast]
    refine lc_it (walk_range0 (n := n)) (fun i H1 => Same H H1 ∧ H1 D = some (.lst (((List.range i).map fun x => (od n m x : Int)).map V.int))) ⟨same_new hD, upd_same⟩ (fun i H1 _ h => trivial) (fun i y H1 H2 hi hP hY => ?_) (fun H1 hP => q D H1 hP.1 hD hP.2)
    obtain ⟨rfl, rfl⟩ := hY
    refine ⟨rfl, tyes ⟨.ref a, rfl, .int (i : Nat), rfl, a, n, i, m, rfl, ht.same hP.1, G, hi, _, hP.2, ?_, ?_, ?_⟩⟩
    · rw [List.length_map, List.length_map, List.length_range]
      exact szl (by omega)
    · intro c o e
      rw [upd_ne (ne_of_none e hD)]
      exact hP.1 c o e
    · rw [upd_same, List.range_succ, List.map_append, List.map_append]
      rfl
/-- a tuple stands while a list changes -/
theorem sqT_upd {K : PySem.W.Frag} {H : Hp} {r D : Addr} {xs ys : List V} {o : HO} (h : SqT K H r xs) (hD : H D = some (.lst ys)) : SqT K (upd H D o) r xs := by
  rcases h with (h | ⟨b, h⟩) | h
  · have ne : r ≠ D := fun e => by rw [e, hD] at h; cases h
    exact .inl (.inl (by rw [upd_ne ne]; exact h))
  · have ne : r ≠ D := fun e => by rw [e, hD] at h; cases h
    exact .inl (.inr ⟨b, by rw [upd_ne ne]; exact h⟩)
  · exact .inr h
theorem zt_upd {H : Hp} {r D : Addr} {xs ys : List V} {o : HO} (h : ZT H r xs) (hD : H D = some (.lst ys)) : ZT (upd H D o) r xs := by
  obtain ⟨b, h, d⟩ := h
  have ne : r ≠ D := fun e => by rw [e, hD] at h; cases h
  exact ⟨b, by rw [upd_ne ne]; exact h, d⟩
/-- tuple(list) -/
def rTO (K : PySem.W.Frag) : List V → Hp → VK → Prop := fun xs H Q => ∃ p ys, xs = [.ref p] ∧ SqL K H p ys ∧ ∀ l, H l = none → Q (.ref l) (upd H l (.tup ys))
theorem call_tupO {X : Cx} : CallR X (.type "tuple") (rTO X.K) := by
  intro pins s σ H xs us Q I r h
  obtain ⟨p, ys, rfl, hq, q⟩ := h
  exact call_tuple_of pins s σ H _ us Q I r ⟨p, ys, rfl, .inl ⟨hq, q⟩⟩
/-- a comprehension's names as they stand within its def -/
def relS (sc : Scope) : Scope := { sc with names := sc.names.map fun y => (y.1, match y.2 with | .free => .cell | k => k) }
/-- the outer comprehension's names -/
def inLc : Stmt → Scope
  | .Return (some (.Call _ [.ListComp _ _ sc _] _ _)) _ => relS sc
  | _ => defScope sOpposite
def spOpposite (K : PySem.W.Frag) : Sp := fun vs H Q _ => ∃ (a : Addr) (n : Nat) (m : Nat → Nat → Nat), vs = [.ref a] ∧ TabAt K H a n m ∧ n ≤ 1000 ∧ ∀ p H', Same H H' → TabAt K H' p n (fun i j => m j i) → Q (.ref p) H'
theorem ok_opposite {f : Addr} {fd : FuncData} (B : Bn mg) (D : Df K mg "opposite" sOpposite ["table"] f fd) : FnOk P w K mg base CX0 1 f fd ["table"] (spOpposite K) := by
  refine D.F.ok scOpposite (fun vs H Q E h => ?_) (fun cdv A outer s H vs Q E hr h => ?_)
  · obtain ⟨a, n, m, rfl, _⟩ := h
    rfl
  · obtain ⟨a, n, m, rfl, ht, hz, q⟩ := h
    refine ⟨_, pss_one (ps_ret (pe_callTy call_tuple_of (by rfl) B.tuple b_tuple (pa_cons (pe_lc (own := [("at", 1)]) (g := gName 1) (tt := tYes) rfl scOpposite.nd (pi_range1 (by rfl) B.range (pa_cons (pe_callB call_len_seq (by rfl) B.len b_len (pa_cons (pv 0) pa_nil)) pa_nil)) (blkOk_by (N := ["table", "at", "row"]) (sc := defScope sOpposite) (by decide +kernel))
      (fun _ _ _ _ _ => pg_name (i := 1) scOpposite.nd rfl (Or.inr rfl)) (fun _ _ _ _ _ => pts_nil)
      (fun _ _ _ _ _ => pe_callTy (r := rTO K) call_tupO (by rfl) B.tuple b_tuple (pa_cons (pe_lc (wi := iTup K (tVar 0)) (own := [("row", 2)]) (g := gName 2) (tt := tYes) rfl scOpposite.nd (pi_tup (pv 0)) (blkOk_by (N := ["table", "at", "row"]) (sc := inLc ((defBody sOpposite).getD 0 (.Pass ⟨0, 0, 0, 0⟩))) (by decide +kernel))
        (fun _ _ _ _ _ => pg_name (i := 2) scOpposite.nd rfl (Or.inl rfl)) (fun _ _ _ _ _ => pts_nil) (fun _ _ _ _ _ => pe_ix (r := rIxT K) ix_tup (pv 2) (pv 1) (fun _ _ => rfl))) pa_nil))) pa_nil))), ?_⟩
    obtain ⟨xs, h1, h2⟩ := ht.len
    refine ⟨.ref a, rfl, a, xs, rfl, .inr h1, (n : Nat), by rw [h2], by omega, by omega, fun D hD => ?_⟩
    rw [Int.toNat_natCast]
    refine lc_it (walk_range0 (n := n)) (fun i H1 => Same H H1 ∧ ∃ rs : List Addr, rs.length = i ∧ H1 D = some (.lst (rs.map V.ref)) ∧ ∀ (j : Nat) (r : Addr), rs[j]? = some r → SqT K H1 r (rowV n (fun i j => m j i) j)) ⟨same_new hD, [], rfl, upd_same, fun j r e => by cases e⟩ (fun i H1 _ h => trivial) (fun i y H1 H2 hi hP hY => ?_) (fun H1 hP => ?_)
    · obtain ⟨rfl, rfl⟩ := hY
      obtain ⟨hs, rs, hl, hr1, hr2⟩ := hP
      obtain ⟨ts, htl, ht1, ht2⟩ := ht.same hs
      have hD2 : ∀ (H3 : Hp) (e : Addr), Same (upd H2 e (.lst [])) H3 → H2 e = none → H3 D = some (.lst (rs.map V.ref)) := fun H3 e hs3 he => hs3 D _ (by rw [upd_ne (ne_of_none hr1 he)]; exact hr1)
      refine ⟨rfl, tyes ⟨.ref a, rfl, a, rfl, ⟨_, ht1⟩, fun e he => ?_⟩⟩
      refine lc_it (walk_tup (xs := ts.map V.ref)) (fun k H3 => Same H2 H3 ∧ H3 e = some (.lst ((rowV n (fun i j => m j i) i).take k))) ⟨same_new he, upd_same⟩ (fun k H3 _ h => sameT h.1 ht1) (fun k y H3 H4 hk hP hY => ?_) (fun H3 hP => ?_)
      · obtain ⟨rfl, hy⟩ := hY
        rw [List.length_map] at hk
        rw [List.getElem?_map, List.getElem?_eq_getElem hk] at hy
        obtain rfl : V.ref ts[k] = y := Option.some.inj hy
        have hkn : k < n := by omega
        refine ⟨rfl, tyes ⟨.ref ts[k], rfl, .int (i : Nat), rfl, ts[k], _, (i : Nat), _, rfl, rfl, sameT hP.1 (ht2 k _ (List.getElem?_eq_getElem hk)), atI_nat (rowV_at hi), _, hP.2, ?_, ?_, ?_⟩⟩
        · rw [List.length_take, rowV_len]
          exact szl (by omega)
        · intro c o z
          rw [upd_ne (ne_of_none z he)]
          exact hP.1 c o z
        · rw [upd_same, List.take_add_one, rowV_at hkn]
          rfl
      · rw [List.length_map] at hP
        rw [List.take_of_length_le (by rw [rowV_len]; omega)] at hP
        refine ⟨e, _, rfl, .inl (.inl hP.2), fun l hl3 => ?_⟩
        have hD3 : H3 D = some (.lst (rs.map V.ref)) := hP.1 D _ hr1
        have lD : D ≠ l := ne_of_none hD3 hl3
        refine ⟨rs.map V.ref, by rw [upd_ne lD]; exact hD3, by rw [List.length_map]; exact szl (by omega), ?_, rs ++ [l], by rw [List.length_append, hl]; rfl, by rw [upd_same, List.map_append]; rfl, fun j r z => ?_⟩
        · intro c o z
          have z2 := hs c o z
          have z3 := hP.1 c o z2
          rw [upd_ne (ne_of_none z hD), upd_ne (ne_of_none z3 hl3)]
          exact z3
        · have hD4 : upd H3 l (.tup (rowV n (fun i j => m j i) i)) D = some (.lst (rs.map V.ref)) := by rw [upd_ne lD]; exact hD3
          by_cases hj : j < rs.length
          · rw [List.getElem?_append_left hj] at z
            exact sqT_upd (sameT (same_new hl3) (sameT hP.1 (hr2 j r z))) hD4
          · rw [List.getElem?_append_right (by omega)] at z
            have hj2 : j - rs.length = 0 := by
              by_cases hj2 : j - rs.length = 0
              · exact hj2
              · rw [List.getElem?_eq_none (by simp; omega)] at z
                cases z
            rw [hj2] at z
            obtain rfl : l = r := Option.some.inj z
            have ej : j = i := by omega
            subst ej
            exact sqT_upd seqT_new hD4
    · obtain ⟨hs, rs, hl, hr1, hr2⟩ := hP
      refine ⟨D, _, rfl, .inl ⟨.inl (.inl hr1), fun l hl1 => q l _ (fun c o z => ?_) ⟨rs, hl, seqT_new, fun j r z => sameT (same_new hl1) (hr2 j r z)⟩⟩⟩
      rw [upd_ne (ne_of_none (hs c o z) hl1)]
      exact hs c o z
end
end K38

set_option Elab.async false
set_option linter.all false
set_option maxRecDepth 100000
set_option maxHeartbeats 4000000
/-! V1: values that may be a matching. -/
namespace K38
open PySem PySem.Spec PyProof.Rows L2
/-- the numbers of a matching of the first table onto the second -/
def IsoT (n : Nat) (m : Nat → Nat → Nat) (n2 : Nat) (g : Nat → Nat → Nat) (o : Option (List Int)) : Prop := n2 = n ∧ ∃ f, o = some (tupF n f) ∧ Iso n m g f
/-- a value, and its numbers where it is a tuple of numbers -/
def VD (K : PySem.W.Frag) (H : Hp) (v : V) (o : Option (List Int)) : Prop :=
  (o = none ∧ Known K H v false) ∨
  (∃ (a : Addr) (xs : List V), v = .ref a ∧ SqT K H a xs ∧ (∀ y ∈ xs, ∃ t, Known K H y t) ∧ xs.length ≤ 1000 ∧ ((o = none ∧ ∃ y ∈ xs, isInt y = false) ∨ ∃ ns : List Int, o = some ns ∧ xs = ns.map V.int))
theorem VD.same {K : PySem.W.Frag} {H H' : Hp} {v : V} {o : Option (List Int)} (h : VD K H v o) (e : Same H H') : VD K H' v o := by
  rcases h with ⟨h1, h2⟩ | ⟨a, xs, h1, h2, h3, h4, h5⟩
  · exact .inl ⟨h1, known_same e h2⟩
  · refine .inr ⟨a, xs, h1, sameT e h2, fun y hy => ?_, h4, h5⟩
    obtain ⟨t, ht⟩ := h3 y hy
    exact ⟨t, known_same e ht⟩
theorem vd_ints {K : PySem.W.Frag} {H : Hp} {a : Addr} {ns : List Int} (h : SqT K H a (ns.map V.int)) (hl : ns.length ≤ 1000) : VD K H (.ref a) (some ns) :=
  .inr ⟨a, _, rfl, h, fun y hy => by
    obtain ⟨i, _, rfl⟩ := List.mem_map.mp hy
    exact ⟨false, known_int i⟩, by rw [List.length_map]; exact hl, .inr ⟨ns, rfl, rfl⟩⟩
theorem vd_non {K : PySem.W.Frag} {H : Hp} : VD K H .non none := .inl ⟨rfl, known_non⟩
/-- all below n: a tuple of numbers below n -/
theorem row_tup {n : Nat} {xs : List V} (hl : xs.length = n) (h : xs.all (belowB (n : Nat)) = true) : ∃ f : Nat → Nat, xs = (tupF n f).map V.int ∧ ∀ i, i < n → f i < n := by
  have hx : ∀ i, i < n → ∃ k : Nat, k < n ∧ xs[i]? = some (.int (k : Nat)) := fun i hi => by
    have hi2 : i < xs.length := by omega
    have := List.all_eq_true.mp h xs[i] (List.getElem_mem hi2)
    rw [List.getElem?_eq_getElem hi2]
    cases e : xs[i] with
    | int j =>
      rw [e] at this
      have h2 : (decide (0 ≤ j) && decide (j < (n : Nat))) = true := this
      simp only [Bool.and_eq_true, decide_eq_true_eq] at h2
      exact ⟨j.toNat, by omega, by rw [Int.toNat_of_nonneg h2.1]⟩
    | _ => rw [e] at this; cases this
  let f : Nat → Nat := fun i => match xs[i]? with
    | some (.int j) => j.toNat
    | _ => 0
  refine ⟨f, ?_, fun i hi => ?_⟩
  · apply List.ext_getElem?
    intro i
    by_cases hi : i < n
    · obtain ⟨k, h1, h2⟩ := hx i hi
      rw [List.getElem?_map, tupF_at hi, h2]
      have : f i = k := by
        show (match xs[i]? with
          | some (.int j) => j.toNat
          | _ => 0) = k
        rw [h2]
        rfl
      rw [this]
      rfl
    · rw [List.getElem?_eq_none (by omega), List.getElem?_eq_none (by rw [List.length_map, tupF_len]; omega)]
  · obtain ⟨k, h1, h2⟩ := hx i hi
    show (match xs[i]? with
      | some (.int j) => j.toNat
      | _ => 0) < n
    rw [h2]
    exact h1
theorem tupF_nodup {n : Nat} {f : Nat → Nat} : (tupF n f).Nodup ↔ ∀ i j, i < n → j < n → f i = f j → i = j := by
  constructor
  · intro h i j hi hj e
    have h1 : (tupF n f)[i]'(by rw [tupF_len]; exact hi) = (f i : Int) := Option.some.inj ((List.getElem?_eq_getElem _).symm.trans (tupF_at hi))
    have h2 : (tupF n f)[j]'(by rw [tupF_len]; exact hj) = (f j : Int) := Option.some.inj ((List.getElem?_eq_getElem _).symm.trans (tupF_at hj))
    exact (List.getElem_inj h).mp (by rw [h1, h2, e])
  · intro h
    unfold tupF
    rw [List.nodup_iff_pairwise_ne, List.pairwise_map]
    refine List.Pairwise.imp_of_mem (fun {i j} hi hj hne e => ?_) (List.nodup_range (n := n))
    exact hne (h i j (List.mem_range.mp hi) (List.mem_range.mp hj) (by omega))
theorem tupF_inj {n : Nat} {f f' : Nat → Nat} (h : tupF n f = tupF n f') : Same_n n f f' := fun i hi => by
  have h1 := tupF_at (f := f) hi
  rw [h, tupF_at hi] at h1
  have := Option.some.inj h1
  omega
theorem Iso.of_same {n : Nat} {m g : Nat → Nat → Nat} {f f' : Nat → Nat} (h : Iso n m g f) (e : Same_n n f f') (hm : ∀ i j, i < n → j < n → m i j < n) : Iso n m g f' :=
  ⟨fun i hi => by rw [← e i hi]; exact h.lt i hi, fun i j hi hj z => h.inj i j hi hj (by rw [e i hi, e j hj]; exact z), fun i j hi hj => by rw [← e _ (hm i j hi hj), ← e i hi, ← e j hj]; exact h.hom i j hi hj⟩
theorem isoT_some {n : Nat} {m g : Nat → Nat → Nat} {f : Nat → Nat} (hm : ∀ i j, i < n → j < n → m i j < n) : IsoT n m n g (some (tupF n f)) ↔ Iso n m g f := by
  constructor
  · rintro ⟨_, f', e, h⟩
    exact h.of_same (tupF_inj (Option.some.inj e).symm) hm
  · intro h
    exact ⟨rfl, f, rfl, h⟩
/-- t[i] of a tuple of numbers -/
theorem ix_tupF {K : PySem.W.Frag} {σ : L2.St} {H : Hp} {Q : VK} {ta ti : TE} {a : Addr} {n i : Nat} {f : Nat → Nat} (h : SqT K H a ((tupF n f).map V.int)) (hi : i < n)
    (ea : ∀ Q : VK, Q (.ref a) H → ta σ H Q) (ei : ∀ Q : VK, Q (.int (i : Nat)) H → ti σ H Q) (q : Q (.int (f i : Nat)) H) : tOp (rIxT K) ta ti σ H Q :=
  ea _ (ei _ ⟨a, _, (i : Nat), .int (f i : Nat), rfl, rfl, h, atI_nat (by rw [List.getElem?_map, tupF_at hi]; rfl), q⟩)
theorem ne_yes {i j : Nat} (h : (!decide (V.int (i : Nat) = V.int (j : Nat))) = true) : i ≠ j := fun e => by
  subst e
  rw [decide_eq_true rfl] at h
  cases h
theorem ne_no {i j : Nat} (h : ¬ (!decide (V.int (i : Nat) = V.int (j : Nat))) = true) : i = j := by
  by_cases e : i = j
  · exact e
  · exfalso
    apply h
    have z : decide (V.int (i : Nat) = V.int (j : Nat)) = false := decide_eq_false fun z => e (Int.ofNat.inj (V.int.inj z))
    rw [z]
    rfl
theorem var_is {σ : L2.St} {H : Hp} {i : Nat} {v : V} (h : σ[i]? = some (some v)) (Q : VK) (q : Q v H) : tVar i σ H Q := ⟨v, h, q⟩
end K38

set_option Elab.async false
set_option linter.all false
set_option maxRecDepth 100000
set_option maxHeartbeats 2000000
/-! Ru9: list(d.values()). -/
namespace K38
open PySem PySem.Spec PyProof.Rows L2
def tListVals (td : TE) : TE := fun σ H Q => td σ H fun x H1 => ∃ a kvs, x = V.ref a ∧ H1 a = some (.dK kvs) ∧ ∀ q, H1 q = none → Q (.ref q) (upd H1 q (.lst (kvs.map (·.2))))
section
variable {X : Cx} {o : Expr} {p pos apos mpos : Pos} {td : TE}
theorem pe_listVals (hc : X.calm = true) (hg : Gl X "list") (hm : X.mg "list" = none) (hd : PE X o td) (hbase : attributeBase o "values" X.env (eval o X.env) = eval o X.env := by rfl) (hline : (apos.endLine == mpos.line) = true := by rfl)
    (hse : starEach [Expr.Call (.Attribute o "values" apos) [] [] mpos] X.env = (false, eval (Expr.Call (.Attribute o "values" apos) [] [] mpos) X.env) :: starEach [] X.env := by rfl) :
    PE X (.Call (.Name "list" p) [.Call (.Attribute o "values" apos) [] [] mpos] [] pos) (tListVals td) := by
  refine ⟨fun pins s σ H Q I h => ?_⟩
  refine Call_ (ld_blt I hg hm boot_list (callWith_type1 (args_cons (wpAny_Call_method0_late hbase hline (thn (hd.run pins s σ H _ I h) fun v s1 ⟨x, H1, I1, r1, a, kvs, ex, ha, q⟩ => ?_)) hse) hse))
  subst ex
  obtain rfl : v = Value.ref a := r1
  obtain ⟨hz, hsys, vs, rel, dof⟩ := dk_of I1.hok ha
  obtain ⟨ep, dat⟩ := dof.dictAt
  have dat' := dat
  obtain ⟨ob, es, ho, ex, hdat, hko, hpr, hnd⟩ := dat'
  refine ⟨"dict", "dict.values", F.plainAttrs_dict, F.slot_dict_values, F.type_dict_values, ⟨ob, ho, ex.1⟩, fun b e => ?_, Calls.callWith_builtin rfl (PySem.evalArgs_none ?_)⟩
  · cases e
    exact ⟨ob, ho, ex.2.1⟩
  refine call_meetsIn F.slot_dict_values ⟨ob, ho, ex.1⟩ F.entry_dict_values (F.args_dict_values_1 _) (meets_dict_values (mixKind X.prog X.w) a hsys) ⟨⟨vs, dof⟩, ?_⟩
  have k1 : ∀ b u, s1.heap.get? b = some u → (s1.heap.push { cls := .type "dict_values", data := .fields #[.ref a] }).get? b = some u := fun b u e => Heap.get?_push_of_some _ e
  have dat1 : (s1.heap.push { cls := .type "dict_values", data := .fields #[.ref a] }).DictAt (mixKind X.prog X.w) a vs ep := dat.keep k1
  have hl : kvs.length = vs.length := KV.length rel
  refine args_nil ?_
  refine PySem.W.kdl_call (PySem.W.kdl_values (knd := mixKind X.prog X.w) (kvs := vs) (ep := ep)) (I.ok.hd hc) ⟨⟨_, Heap.get?_push_size _ rfl, rfl, rfl⟩, dat1⟩ (by rw [← hl]; exact hz) fun h' tk acc' c' hkeep hS hacc => ?_
  have I2 : Inv X pins σ H1 { s1 with heap := s1.heap.push { cls := .type "dict_values", data := .fields #[.ref a] } } := I1.kept (t' := s1.toks) k1
  refine ⟨.ref _, upd H1 _ (.lst (kvs.map (·.2))), I2.laid hkeep (Nat.le_refl _) (show ObjOk X.prog X.w _ _ _ (.lst (kvs.map (·.2))) from ⟨?_, acc'.toList, c', ?_, ?_⟩), rfl, q _ (I2.hok.fresh (Nat.le_refl _))⟩
  · rw [List.length_map]; exact hz
  · have el : acc'.toList.length = acc'.size := by simp
    refine vals_of_at (by rw [List.length_map, el, hacc.1, hl]) fun j x w h1 h2 => ?_
    obtain ⟨k, hk⟩ := hacc.2 j w (by rw [← Array.getElem?_toList]; exact h2)
    obtain ⟨y, h3, h4⟩ := KV.at' rel hk
    rw [List.getElem?_map, h3] at h1
    obtain rfl : y = x := Option.some.inj h1
    exact h4
  · rw [Array.toArray_toList]; exact hS
end
end K38

set_option Elab.async false
set_option linter.all false
set_option maxRecDepth 100000
set_option maxHeartbeats 4000000
/-! V2: lists and tuples of numbers compared, looked into. -/
namespace K38
open PySem PySem.Spec PyProof.Rows L2
theorem dp_lints {K : PySem.W.Frag} {H : Hp} {a : Addr} {ns : List Int} (h : SqL K H a (ns.map V.int)) : Dp K H (.ref a) (.list (ns.map PyData.int)) := .lst h (dpAll_ints ns)
theorem dp_tints {K : PySem.W.Frag} {H : Hp} {a : Addr} {ns : List Int} (h : SqT K H a (ns.map V.int)) : Dp K H (.ref a) (.tuple (ns.map PyData.int)) := .tup h (dpAll_ints ns)
theorem any_ints (ns : List Int) (k : Int) : ((ns.map PyData.int).any fun z => PyData.eqv z (.int k)) = decide (k ∈ ns) := by
  rw [Bool.eq_iff_iff, List.any_eq_true, decide_eq_true_eq]
  constructor
  · rintro ⟨d, hd, e⟩
    obtain ⟨i, hi, rfl⟩ := List.mem_map.mp hd
    have : decide (i = k) = true := by
      have := e
      simp only [PyData.eqv] at this
      simpa using this
    rw [← of_decide_eq_true this]
    exact hi
  · intro h
    exact ⟨_, List.mem_map.mpr ⟨k, h, rfl⟩, by simp [PyData.eqv]⟩
theorem shapedT (ns : List Int) : SeqAt.shaped (.tuple (ns.map PyData.int)) = true := by
  have h := PySem.W.ke_shaped_ints ns
  simpa [SeqAt.shaped, PyData.canLay0, PyData.depth] using h
def rEqLI (K : PySem.W.Frag) : R2 := fun x y H Q => ∃ (a b : Addr) (ns ms : List Int), x = .ref a ∧ y = .ref b ∧ SqL K H a (ns.map V.int) ∧ SqL K H b (ms.map V.int) ∧ Q (.bl (decide (ns = ms))) H
def rNeLI (K : PySem.W.Frag) : R2 := fun x y H Q => ∃ (a b : Addr) (ns ms : List Int), x = .ref a ∧ y = .ref b ∧ SqL K H a (ns.map V.int) ∧ SqL K H b (ms.map V.int) ∧ Q (.bl (!decide (ns = ms))) H
def rInLI (K : PySem.W.Frag) : R2 := fun x y H Q => ∃ (k : Int) (b : Addr) (ns : List Int), x = .int k ∧ y = .ref b ∧ SqL K H b (ns.map V.int) ∧ Q (.bl (decide (k ∈ ns))) H
def rNotInLI (K : PySem.W.Frag) : R2 := fun x y H Q => ∃ (k : Int) (b : Addr) (ns : List Int), x = .int k ∧ y = .ref b ∧ SqL K H b (ns.map V.int) ∧ Q (.bl (!decide (k ∈ ns))) H
def rNotInTI (K : PySem.W.Frag) : R2 := fun x y H Q => ∃ (k : Int) (b : Addr) (ns : List Int), x = .int k ∧ y = .ref b ∧ SqT K H b (ns.map V.int) ∧ Q (.bl (!decide (k ∈ ns))) H
section
variable {X : Cx}
theorem op_eqLI (hu : X.A.units + 64 < cLine) : OpR X (compareOp .Eq) (rEqLI X.K) := by
  intro pins s σ H x y v u Q I rx ry h
  obtain ⟨a, b, ns, ms, rfl, rfl, ha, hb, q⟩ := h
  refine op_eqD hu pins s σ H _ _ v u Q I rx ry ⟨_, _, dp_lints ha, dp_lints hb, PySem.W.ke_shaped_ints ns, PySem.W.ke_shaped_ints ms, ?_⟩
  have e : PyData.eqv (.list (ns.map PyData.int)) (.list (ms.map PyData.int)) = decide (ns = ms) := by simp only [PyData.eqv, PySem.W.ked_eqvAll]
  rw [e]
  exact q
theorem op_neLI (hu : X.A.units + 64 < cLine) : OpR X (compareOp .NotEq) (rNeLI X.K) := by
  intro pins s σ H x y v u Q I rx ry h
  obtain ⟨a, b, ns, ms, rfl, rfl, ha, hb, q⟩ := h
  refine op_neD hu pins s σ H _ _ v u Q I rx ry ⟨_, _, dp_lints ha, dp_lints hb, PySem.W.ke_shaped_ints ns, PySem.W.ke_shaped_ints ms, ?_⟩
  have e : PyData.eqv (.list (ns.map PyData.int)) (.list (ms.map PyData.int)) = decide (ns = ms) := by simp only [PyData.eqv, PySem.W.ked_eqvAll]
  rw [e]
  exact q
theorem op_inLI (hu : X.A.units + 65 < cLine) : OpR X (compareOp .In) (rInLI X.K) := by
  intro pins s σ H x y v u Q I rx ry h
  obtain ⟨k, b, ns, rfl, rfl, hb, q⟩ := h
  refine op_inD hu pins s σ H _ _ v u Q I rx ry ⟨_, _, .int k, dp_lints hb, rfl, PySem.W.ke_shaped_ints ns, ?_⟩
  rw [any_ints]
  exact q
theorem op_notInLI (hu : X.A.units + 65 < cLine) : OpR X (compareOp .NotIn) (rNotInLI X.K) := by
  intro pins s σ H x y v u Q I rx ry h
  obtain ⟨k, b, ns, rfl, rfl, hb, q⟩ := h
  refine op_notInD hu pins s σ H _ _ v u Q I rx ry ⟨_, _, .int k, dp_lints hb, rfl, PySem.W.ke_shaped_ints ns, ?_⟩
  rw [any_ints]
  exact q
theorem op_notInTI (hu : X.A.units + 65 < cLine) : OpR X (compareOp .NotIn) (rNotInTI X.K) := by
  intro pins s σ H x y v u Q I rx ry h
  obtain ⟨k, b, ns, rfl, rfl, hb, q⟩ := h
  refine op_notInT hu pins s σ H _ _ v u Q I rx ry ⟨_, _, .int k, dp_tints hb, rfl, shapedT ns, ?_⟩
  rw [any_ints]
  exact q
end
/-- the lists of two sorted perms are one -/
theorem sorted_uniq {as bs : List Int} (h : as.Perm bs) (ha : as.Pairwise (· ≤ ·)) (hb : bs.Pairwise (· ≤ ·)) : as = bs :=
  List.Perm.eq_of_pairwise (fun a b _ _ h1 h2 => Int.le_antisymm h1 h2) ha hb h
end K38

set_option Elab.async false
set_option linter.all false
set_option maxRecDepth 100000
set_option maxHeartbeats 4000000
/-! D3: is_matching. -/
namespace K38
open PySem PySem.Spec PyProof.Rows L2
theorem scIsMatching : FnScope ["table", "goal", "value", "size", "one", "row", "two", "product"] ["table", "goal", "value"] (defScope sIsMatching) := ⟨rfl, rfl, rfl, by decide +kernel, rfl, by decide +kernel, by decide +kernel⟩
section
variable {P : Program} {w : World} {K : PySem.W.Frag} {mg : Str → Option Value} {base : Heap} {fI fN fB : Addr} {fdI fdN fdB : FuncData}
def spIsMatching (K : PySem.W.Frag) : Sp := fun vs H Q _ => ∃ (a b : Addr) (v : V) (n n2 : Nat) (m g : Nat → Nat → Nat) (o : Option (List Int)), vs = [.ref a, .ref b, v] ∧ TabAt K H a n m ∧ TabAt K H b n2 g ∧ VD K H v o ∧ n ≤ 60 ∧
  (∀ i j, i < n → j < n → m i j < n) ∧ ∀ H' c, Same H H' → (c = true ↔ IsoT n m n2 g o) → Q (.bl c) H'
theorem isoT_len {n n2 : Nat} {m g : Nat → Nat → Nat} {xs : List V} {ns : List Int} (h : IsoT n m n2 g (some ns)) : ns.length = n := by
  obtain ⟨_, f, e, _⟩ := h
  rw [Option.some.inj e, tupF_len]
theorem isoT_below {n n2 : Nat} {m g : Nat → Nat → Nat} {ns : List Int} (h : IsoT n m n2 g (some ns)) : (ns.map V.int).all (belowB (n : Nat)) = true := by
  obtain ⟨_, f, e, hi⟩ := h
  rw [Option.some.inj e]
  unfold tupF
  rw [List.all_map, List.all_map, List.all_eq_true]
  intro i hm
  exact below_yes (hi.lt i (List.mem_range.mp hm))
theorem ok_isMatching {fR f : Addr} {fd fdR : FuncData} (L : Low K mg fI fN fB fdI fdN fdB) (DR : Df K mg "is_row" sIsRow ["value", "size", "bound"] fR fdR) (D : Df K mg "is_matching" sIsMatching ["table", "goal", "value"] f fd) :
    FnOk P w K mg base CX0 5 f fd ["table", "goal", "value"] (spIsMatching K) := by
  refine D.F.ok scIsMatching (fun vs H Q E h => ?_) (fun cdv A outer s H vs Q E hr h => ?_)
  · obtain ⟨a, b, v, n, n2, m, g, o, rfl, _⟩ := h
    rfl
  · obtain ⟨a, b, v, n, n2, m, g, o, rfl, ha, hb, hv, hz, hm, q⟩ := h
    refine ⟨_, pss_cons (ps_set (i := 3) scIsMatching.nd rfl (Or.inl rfl) (pe_callB call_len_seq (by rfl) L.B.len b_len (pa_cons (pv 0) pa_nil)))
      (pss_cons (ps_if (PW.pt (pw_or (pt_cmpR op_ne (pe_callB call_len_seq (by rfl) L.B.len b_len (pa_cons (pv 1) pa_nil)) (pv 3) (nomark _))
          (pw_or (pt_not (pt_val (pe_call (ok_isRow L.B L.I L.N L.W DR) hr (by rfl) DR.g DR.F.kp DR.b .nil pass0 (pa_cons (pv 2) (pa_cons (pv 3) (pa_cons (pv 3) pa_nil))))))
          (pw_or1 (pt_cmpR op_lt (pe_lenSetX (by rfl) L.B.len (by rfl) L.B.set (pv 2)) (pv 3) (nomark _)))))) (pss_one (ps_ret pe_bl)) pss_nil)
      (pss_cons (ps_for PassesOwn.never rfl (pi_enumT (by rfl) L.B.enumerate (pa_cons (pv 0) pa_nil)) (pg_tup (n := 2) rfl (pgs_cons (pg_name (i := 4) scIsMatching.nd rfl (Or.inl rfl)) (pgs_cons (pg_name (i := 5) scIsMatching.nd rfl (Or.inl rfl)) pgs_nil)))
        (pss_one (ps_for PassesOwn.never rfl (pi_enumT (by rfl) L.B.enumerate (pa_cons (pv 5) pa_nil)) (pg_tup (n := 2) rfl (pgs_cons (pg_name (i := 6) scIsMatching.nd rfl (Or.inl rfl)) (pgs_cons (pg_name (i := 7) scIsMatching.nd rfl (Or.inl rfl)) pgs_nil)))
          (pss_one (ps_if (pt_cmpR op_ne (pe_ix ix_tup (pv 2) (pv 7) (fun _ _ => rfl)) (pe_ix ix_tup (pe_ix ix_tup (pv 1) (pe_ix ix_tup (pv 2) (pv 4) (fun _ _ => rfl)) (fun _ _ => rfl)) (pe_ix ix_tup (pv 2) (pv 6) (fun _ _ => rfl)) (fun _ _ => rfl)) (nomark _)) (pss_one (ps_ret pe_bl)) pss_nil)))))
      (pss_one (ps_ret pe_bl)))), ?_⟩
    obtain ⟨xa, ha1, ha2⟩ := ha.len
    obtain ⟨xb, hb1, hb2⟩ := hb.len
    refine ⟨.ref a, rfl, a, xa, rfl, .inr ha1, ?_⟩
    rw [ha2]
    refine ⟨.ref b, rfl, b, xb, rfl, .inr hb1, .int (n : Nat), rfl, rfl, _, rfl, ?_⟩
    rw [hb2]
    have no : ¬ IsoT n m n2 g o → ∀ H', Same H H' → Q (.bl false) H' := fun h H' e => q H' false e ⟨fun z => Bool.noConfusion z, fun z => absurd z h⟩
    by_cases e1 : n2 = n
    rotate_left
    · have : decide (V.int (n2 : Nat) = V.int (n : Nat)) = false := decide_eq_false fun z => e1 (Int.ofNat.inj (V.int.inj z))
      rw [this]
      exact no (fun z => e1 z.1) H (Same.refl H)
    · subst e1
      rw [decide_eq_true rfl]
      refine ⟨v, rfl, .int (n2 : Nat), rfl, .int (n2 : Nat), rfl, v, n2, (n2 : Nat), rfl, ?_⟩
      rcases hv with ⟨rfl, hk⟩ | ⟨p, xs, rfl, hS, hkn, hl, ho⟩
      · exact .inl ⟨hk, false, rfl, no (fun z => by obtain ⟨_, f, e, _⟩ := z; cases e) H (Same.refl H)⟩
      refine .inr ⟨p, xs, rfl, hS, hkn, hl, fun H1 s1 => ⟨_, rfl, ?_⟩⟩
      cases hc : (decide (xs.length = n2) && xs.all (belowB (n2 : Nat))) with
      | false =>
        refine no (fun z => ?_) H1 s1
        rcases ho with ⟨rfl, _⟩ | ⟨ns, rfl, rfl⟩
        · obtain ⟨_, f, e, _⟩ := z; cases e
        · rw [List.length_map, isoT_len (xs := []) z, isoT_below z, decide_eq_true rfl] at hc
          cases hc
      | true =>
        rw [Bool.and_eq_true, decide_eq_true_eq] at hc
        obtain ⟨f, rfl, hf⟩ := row_tup hc.1 hc.2
        have ho2 : o = some (tupF n2 f) := by
          rcases ho with ⟨_, y, hy, hn⟩ | ⟨ns, h1, h2⟩
          · obtain ⟨i, _, rfl⟩ := List.mem_map.mp hy
            cases hn
          · rw [h1, (List.map_inj_right (fun x y e => V.int.inj e)).mp h2]
        subst ho2
        rw [isoT_some hm] at q
        refine ⟨.ref p, rfl, p, tupF n2 f, rfl, .inr (sameT s1 hS), by rw [tupF_len]; omega, fun c hc1 hc2 => ⟨.int (n2 : Nat), rfl, (c : Nat), (n2 : Nat), rfl, rfl, _, rfl, ?_⟩⟩
        rw [tupF_len] at hc1 hc2
        refine ite2 (fun e => ?_) (fun e => ?_)
        · have e : c < n2 := by have := of_decide_eq_true e; omega
          refine q H1 false s1 ⟨fun z => Bool.noConfusion z, fun z => ?_⟩
          have := hc2.mpr (tupF_nodup.mpr z.inj)
          omega
        · have hcn : c = n2 := by
            have : ¬ ((c : Nat) : Int) < (n2 : Nat) := fun z => e (decide_eq_true z)
            omega
          have inj := tupF_nodup.mp (hc2.mp hcn)
          have hS1 := sameT s1 hS
          obtain ⟨rs, r1, r2, r3⟩ := ha.same s1
          refine ⟨.ref a, rfl, a, _, rfl, r2, ?_⟩
          have len : (rs.map V.ref).length = n2 := by rw [List.length_map]; exact r1
          refine for_it (walk_enumT (xs := rs.map V.ref)) (fun i σ H2 => Same H1 H2 ∧ (∃ x4 x5 x6 x7, σ = [some (.ref a), some (.ref b), some (.ref p), some (.int (n2 : Nat)), x4, x5, x6, x7]) ∧ ∀ i' j, i' < i → j < n2 → f (m i' j) = g (f i') (f j)) ⟨Same.refl H1, ⟨_, _, _, _, rfl⟩, fun i' j h => absurd h (by omega)⟩ (fun i σ H2 _ h => sameT h.1 r2) (fun i y σ H2 H3 hi hP hY => ?_) (fun σ H2 hP => ?_)
          · rw [len] at hi
            obtain ⟨s2, ⟨x4, x5, x6, x7, rfl⟩, hd⟩ := hP
            obtain ⟨T, x0, x, rfl, hT, rfl, hx0, hx⟩ := hY
            obtain rfl : V.int (i : Nat) = x0 := Option.some.inj hx0
            have hx : (rs.map V.ref)[i]? = some x := hx
            rw [List.getElem?_map, List.getElem?_eq_getElem (by omega)] at hx
            obtain rfl : V.ref (rs[i]'(by omega)) = x := Option.some.inj hx
            have hrow := r3 i _ (List.getElem?_eq_getElem (by omega))
            have s3 : Same H1 (upd H2 T (.tup [.int (i : Nat), .ref (rs[i]'(by omega))])) := fun c o z => by
              rw [upd_ne (ne_of_none (s2 c o z) hT)]
              exact s2 c o z
            refine ⟨T, _, rfl, seqT_new, rfl, _, _, rfl, _, _, rfl, rfl, ?_⟩
            refine ⟨.ref (rs[i]'(by omega)), rfl, _, _, rfl, sameT s3 hrow, ?_⟩
            refine for_it (walk_enumT (xs := rowV n2 m i)) (fun j σ H4 => Same H1 H4 ∧ (∃ x6 x7, σ = [some (.ref a), some (.ref b), some (.ref p), some (.int (n2 : Nat)), some (.int (i : Nat)), some (.ref (rs[i]'(by omega))), x6, x7]) ∧ ∀ j', j' < j → f (m i j') = g (f i) (f j')) ⟨s3, ⟨_, _, rfl⟩, fun j' h => absurd h (by omega)⟩ (fun j σ H4 _ h => sameT h.1 hrow) (fun j y σ H4 H5 hj hP hY => ?_) (fun σ H4 hP => ?_)
            · rw [rowV_len] at hj
              obtain ⟨s4, ⟨x6, x7, rfl⟩, hd2⟩ := hP
              obtain ⟨T2, x0, x, rfl, hT2, rfl, hx0, hx2⟩ := hY
              obtain rfl : V.int (j : Nat) = x0 := Option.some.inj hx0
              have hx2 : (rowV n2 m i)[j]? = some x := hx2
              rw [rowV_at hj] at hx2
              obtain rfl : V.int (m i j : Nat) = x := Option.some.inj hx2
              have s5 : Same H1 (upd H4 T2 (.tup [.int (j : Nat), .int (m i j : Nat)])) := fun c o z => by
                rw [upd_ne (ne_of_none (s4 c o z) hT2)]
                exact s4 c o z
              refine ⟨T2, _, rfl, seqT_new, rfl, _, _, rfl, _, _, rfl, rfl, ?_⟩
              have hS5 := sameT s5 hS1
              have hb5 := hb.same (s1.trans s5)
              refine ix_tupF hS5 (hm i j hi hj) (var_is rfl) (var_is rfl) ?_
              refine ix_tab (i := f i) (j := f j) hb5 (hf i hi) (hf j hj) (var_is rfl) (fun Q q => ix_tupF hS5 hi (var_is rfl) (var_is rfl) q) (fun Q q => ix_tupF hS5 hj (var_is rfl) (var_is rfl) q) ⟨rfl, _, rfl, ?_⟩
              refine ite2 (fun e => ?_) (fun e => ?_)
              · exact q _ false (s1.trans s5) ⟨fun z => Bool.noConfusion z, fun z => absurd (z.hom i j hi hj) (ne_yes e)⟩
              · have e := ne_no e
                refine ⟨s5, ⟨_, _, rfl⟩, fun j' hj' => ?_⟩
                rcases Nat.lt_or_eq_of_le (Nat.le_of_lt_succ hj') with z | z
                · exact hd2 j' z
                · rw [z]; exact e
            · rw [rowV_len] at hP
              obtain ⟨s4, ⟨x6, x7, rfl⟩, hd2⟩ := hP
              refine ⟨s4, ⟨_, _, _, _, rfl⟩, fun i' j hi' hj => ?_⟩
              rcases Nat.lt_or_eq_of_le (Nat.le_of_lt_succ hi') with z | z
              · exact hd i' j z hj
              · rw [z]; exact hd2 j hj
          · rw [len] at hP
            obtain ⟨s2, ⟨x4, x5, x6, x7, rfl⟩, hd⟩ := hP
            exact q H2 true (s1.trans s2) ⟨fun _ => ⟨hf, inj, hd⟩, fun _ => rfl⟩
end
end K38

set_option Elab.async false
set_option linter.all false
set_option maxRecDepth 100000
set_option maxHeartbeats 4000000
/-! D4: _law_leads. -/
namespace K38
open PySem PySem.Spec PyProof.Rows L2
theorem scLeads : FnScope ["_law_table_here", "_law_goal", "_law_value", "_law_one", "_law_two"] ["_law_table_here", "_law_goal", "_law_value"] (defScope sLeads) := ⟨rfl, rfl, rfl, by decide +kernel, rfl, by decide +kernel, by decide +kernel⟩
/-- list(range(n)) holds these -/
theorem rgV_ints (n : Nat) : rgV 0 (n : Nat) = (tupF n fun i => i).map V.int := by
  unfold rgV tupF
  rw [List.map_map]
  have e : ((n : Nat) - (0 : Int)).toNat = n := by omega
  rw [e]
  refine List.map_congr_left fun i _ => ?_
  show V.int (0 + (i : Nat)) = V.int (i : Nat)
  rw [Int.zero_add]
theorem range_sorted (n : Nat) : (tupF n fun i => i).Pairwise (· ≤ ·) := by
  unfold tupF
  rw [List.pairwise_map]
  exact List.Pairwise.imp_of_mem (fun {i j} _ _ h => Int.ofNat_le.mpr (Nat.le_of_lt h)) (List.pairwise_lt_range (n := n))
/-- a perm of 0 .. n - 1 -/
theorem perm_tup {n : Nat} {ns : List Int} (h : ns.Perm (tupF n fun i => i)) : ∃ f : Nat → Nat, ns = tupF n f ∧ (∀ i, i < n → f i < n) ∧ ∀ i j, i < n → j < n → f i = f j → i = j := by
  have hl : ns.length = n := by rw [h.length_eq, tupF_len]
  have hb : (ns.map V.int).all (belowB (n : Nat)) = true := by
    rw [List.all_map, List.all_eq_true]
    intro k hk
    have hk2 := h.mem_iff.mp hk
    unfold tupF at hk2
    obtain ⟨i, hi, rfl⟩ := List.mem_map.mp hk2
    exact below_yes (List.mem_range.mp hi)
  obtain ⟨f, e, hf⟩ := row_tup (by rw [List.length_map]; exact hl) hb
  have e2 : ns = tupF n f := (List.map_inj_right (fun x y e => V.int.inj e)).mp e
  refine ⟨f, e2, hf, ?_⟩
  have nd : (tupF n fun i => i).Nodup := tupF_nodup.mpr fun i j _ _ e => e
  have nd2 := h.nodup_iff.mpr nd
  rw [e2] at nd2
  exact tupF_nodup.mp nd2
theorem iso_perm {n : Nat} {m g : Nat → Nat → Nat} {f : Nat → Nat} (h : Iso n m g f) : (tupF n f).Perm (tupF n fun i => i) := by
  have := h.perm.map (fun i : Nat => (i : Int))
  rw [List.map_map] at this
  exact this
section
variable {P : Program} {w : World} {K : PySem.W.Frag} {mg : Str → Option Value} {base : Heap}
theorem ok_leads {f : Addr} {fd : FuncData} (B : Bn mg) (D : Df K mg "_law_leads" sLeads ["_law_table_here", "_law_goal", "_law_value"] f fd) :
    FnOk P w K mg base CX0 2 f fd ["_law_table_here", "_law_goal", "_law_value"] (fun vs H Q _ => ∃ (a b : Addr) (v : V) (n n2 : Nat) (m g : Nat → Nat → Nat) (o : Option (List Int)), vs = [.ref a, .ref b, v] ∧ TabAt K H a n m ∧ TabAt K H b n2 g ∧ VD K H v o ∧ n ≤ 60 ∧
  (∀ i j, i < n → j < n → m i j < n) ∧ ∀ H' c, Same H H' → (c = true ↔ IsoT n m n2 g o) → Q (.bl c) H') := by
  refine D.F.ok scLeads (fun vs H Q E h => ?_) (fun cdv A outer s H vs Q E hr h => ?_)
  · obtain ⟨a, b, v, n, n2, m, g, o, rfl, _⟩ := h
    rfl
  · obtain ⟨a, b, v, n, n2, m, g, o, rfl, ha, hb, hv, hz, hm, q⟩ := h
    refine ⟨_, pss_cons (ps_if (PW.pt (pw_or (pt_not (pt_val (pe_callB call_isi (by rfl) B.isinstance b_isinstance (pa_cons (pv 2) (pa_cons (pe_bltn (v := .ty "tuple") (by rfl) B.tuple b_tuple rfl) pa_nil)))))
          (pw_or (pt_cmpR op_ne (pe_callB call_len_seq (by rfl) B.len b_len (pa_cons (pv 2) pa_nil)) (pe_callB call_len_seq (by rfl) B.len b_len (pa_cons (pv 0) pa_nil)) (nomark _))
          (pw_or1 (pt_cmpR op_ne (pe_callB call_len_seq (by rfl) B.len b_len (pa_cons (pv 1) pa_nil)) (pe_callB call_len_seq (by rfl) B.len b_len (pa_cons (pv 0) pa_nil)) (nomark _)))))) (pss_one (ps_ret pe_bl)) pss_nil)
      (pss_cons (ps_if (pt_not (pt_val (pe_callB (cr_all rfl) (by rfl) B.all b_all (pa_cons (pe_lc (own := [("_law_one", 3)]) (g := gName 3) (tt := tYes) rfl scLeads.nd (pi_tup (pv 2)) (blkOk_by (N := ["_law_table_here", "_law_goal", "_law_value", "_law_one", "_law_two"]) (sc := defScope sLeads) (by decide +kernel))
        (fun _ _ _ _ _ => pg_name (i := 3) scLeads.nd rfl (Or.inl rfl)) (fun _ _ _ _ _ => pts_nil)
        (fun _ _ _ _ _ => pe_and (pe_callB (r := rIsi K) call_isi (by rfl) B.isinstance b_isinstance (pa_cons (pv 3) (pa_cons (pe_bltn (v := .ty "int") (by rfl) B.int b_int rfl) pa_nil)))
          (pe_one (pe_not (pe_callB (r := rIsi K) call_isi (by rfl) B.isinstance b_isinstance (pa_cons (pv 3) (pa_cons (pe_bltn (v := .ty "bool") (by rfl) B.bool b_bool rfl) pa_nil))))))) pa_nil)))) (pss_one (ps_ret pe_bl)) pss_nil)
      (pss_cons (ps_if (pt_cmpR (op_neLI hr.units) (pe_callB cr_sortedX (by rfl) B.sorted b_sorted (pa_cons (pv 2) pa_nil)) (pe_listRg rfl (by rfl) B.list (prg_1 (by rfl) B.range (pe_callB call_len_seq (by rfl) B.len b_len (pa_cons (pv 0) pa_nil)))) (nomark _)) (pss_one (ps_ret pe_bl)) pss_nil)
      (pss_cons (ps_for PassesOwn.never rfl (pi_range1 (by rfl) B.range (pa_cons (pe_callB call_len_seq (by rfl) B.len b_len (pa_cons (pv 0) pa_nil)) pa_nil)) (pg_name (i := 3) scLeads.nd rfl (Or.inl rfl))
        (pss_one (ps_for PassesOwn.never rfl (pi_range1 (by rfl) B.range (pa_cons (pe_callB call_len_seq (by rfl) B.len b_len (pa_cons (pv 0) pa_nil)) pa_nil)) (pg_name (i := 4) scLeads.nd rfl (Or.inl rfl))
          (pss_one (ps_if (pt_cmpR op_ne (pe_ix ix_tup (pv 2) (pe_ix ix_tup (pe_ix ix_tup (pv 0) (pv 3) (fun _ _ => rfl)) (pv 4) (fun _ _ => rfl)) (fun _ _ => rfl)) (pe_ix ix_tup (pe_ix ix_tup (pv 1) (pe_ix ix_tup (pv 2) (pv 3) (fun _ _ => rfl)) (fun _ _ => rfl)) (pe_ix ix_tup (pv 2) (pv 4) (fun _ _ => rfl)) (fun _ _ => rfl)) (nomark _)) (pss_one (ps_ret pe_bl)) pss_nil)))))
      (pss_one (ps_ret pe_bl))))), ?_⟩
    obtain ⟨xa, ha1, ha2⟩ := ha.len
    obtain ⟨xb, hb1, hb2⟩ := hb.len
    have no : ¬ IsoT n m n2 g o → ∀ H', Same H H' → Q (.bl false) H' := fun h H' e => q H' false e ⟨fun z => Bool.noConfusion z, fun z => absurd z h⟩
    refine ⟨v, rfl, v, .ty "tuple", ?_⟩
    rcases hv with ⟨rfl, hk⟩ | ⟨p, xs, rfl, hS, hkn, hl, ho⟩
    · obtain ⟨ty, h1, h2, h3, h4⟩ := hk
      refine ⟨.type ty, .type "tuple", _, rfl, .ty _, h1, kit_ty h4, _, rfl, iteT ?_⟩
      exact no (fun z => by obtain ⟨_, f, e, _⟩ := z; cases e) H (Same.refl H)
    obtain ⟨ty, h1, h2, h3, h4⟩ := known_tup hS
    refine ⟨.type ty, .type "tuple", _, rfl, .ty _, h1, kit_ty h4, _, rfl, iteF ?_⟩
    refine ⟨.ref p, rfl, p, xs, rfl, .inr hS, .ref a, rfl, a, xa, rfl, .inr ha1, rfl, _, rfl, ite2 (fun e => ?_) (fun e => ?_)⟩
    · rw [ha2] at e
      refine no (fun z => ?_) H (Same.refl H)
      have e := ne_yes e
      rcases ho with ⟨rfl, _⟩ | ⟨ns, rfl, rfl⟩
      · obtain ⟨_, f, e, _⟩ := z; cases e
      · rw [List.length_map] at e
        exact e (isoT_len (xs := []) z)
    have hl2 := ne_no e
    rw [ha2] at hl2
    refine ⟨.ref b, rfl, b, xb, rfl, .inr hb1, .ref a, rfl, a, xa, rfl, .inr ha1, rfl, _, rfl, ite2 (fun e => ?_) (fun e => ?_)⟩
    · have e := ne_yes e
      rw [ha2, hb2] at e
      exact no (fun z => e z.1) H (Same.refl H)
    have e := ne_no e
    rw [ha2, hb2] at e
    subst e
    refine ⟨.ref p, rfl, p, rfl, ⟨_, hS⟩, fun D hD => ?_⟩
    refine lc_it (walk_tup (xs := xs)) (fun i H1 => Same H H1 ∧ H1 D = some (.lst ((xs.take i).map fun y => V.bl (isInt y)))) ⟨same_new hD, upd_same⟩ (fun i H1 _ h => sameT h.1 hS) (fun i y H1 H2 hi hP hY => ?_) (fun H1 hP => ?_)
    · obtain ⟨rfl, hy⟩ := hY
      obtain ⟨t, kt⟩ := hkn y (List.mem_of_getElem? hy)
      obtain ⟨ty, h1, h2, h3, h4⟩ := known_same hP.1 kt
      have fin : Same H (upd H2 D (.lst ((xs.take i).map (fun y => V.bl (isInt y)) ++ [.bl (isInt y)]))) ∧ upd H2 D (.lst ((xs.take i).map (fun y => V.bl (isInt y)) ++ [.bl (isInt y)])) D = some (.lst ((xs.take (i + 1)).map fun y => V.bl (isInt y))) := by
        refine ⟨fun c o z => ?_, ?_⟩
        · rw [upd_ne (ne_of_none z hD)]
          exact hP.1 c o z
        · rw [upd_same, List.take_add_one, hy, List.map_append]
          rfl
      have sz : ((xs.take i).map fun y => V.bl (isInt y)).length < sizeLine := by
        rw [List.length_map, List.length_take]
        exact szl (by omega)
      refine ⟨rfl, tyes ⟨y, rfl, y, .ty "int", .type ty, .type "int", _, rfl, .ty _, h1, kit_ty h2, _, rfl, ?_⟩⟩
      cases y with
      | int i => exact iteT ⟨_, rfl, _, .ty "bool", .type ty, .type "bool", _, rfl, .ty _, h1, kit_ty h3, _, rfl, _, hP.2, sz, fin⟩
      | bl b => exact iteT ⟨_, rfl, _, .ty "bool", .type ty, .type "bool", _, rfl, .ty _, h1, kit_ty h3, _, rfl, _, hP.2, sz, fin⟩
      | _ => exact iteF ⟨_, hP.2, sz, fin⟩
    rw [List.take_length] at hP
    obtain ⟨s1, hD1⟩ := hP
    refine ⟨D, xs.map isInt, rfl, .inl (.inl (by rw [hD1, List.map_map]; rfl)), _, rfl, ?_⟩
    rcases ho with ⟨rfl, y, hy, hn⟩ | ⟨ns, rfl, rfl⟩
    · have e : (xs.map isInt).all id = false := by
        rw [← Bool.not_eq_true, List.all_map, List.all_eq_true]
        intro z
        have := z y hy
        rw [Function.comp_apply, hn] at this
        cases this
      rw [e]
      exact no (fun z => by obtain ⟨_, f, e, _⟩ := z; cases e) _ s1
    have e : ((ns.map V.int).map isInt).all id = true := by
      rw [List.map_map, List.all_map, List.all_eq_true]
      intro z _
      rfl
    rw [e]
    rw [List.length_map] at hl2
    have hS1 := sameT s1 hS
    refine iteF ⟨.ref p, rfl, p, ns, rfl, .inr hS1, by omega, fun ms l1 hperm hsort hl1 => ⟨.ref a, rfl, a, xa, rfl, .inr (sameT (same_new hl1) (sameT s1 ha1)), _, rfl, ?_, fun l2 hl2' => ?_⟩⟩
    · rw [ha2]
      exact RgOk.of_le (by omega) (by omega) (by omega) (by omega)
    rw [ha2, rgV_ints]
    have l12 : l1 ≠ l2 := ne_of_none upd_same hl2'
    have s3 : Same H (upd (upd H1 l1 (.lst (ms.map V.int))) l2 (.lst ((tupF n2 fun i => i).map V.int))) := s1.trans ((same_new hl1).trans (same_new hl2'))
    refine ⟨l1, l2, ms, tupF n2 fun i => i, rfl, rfl, .inl (.inl (by rw [upd_ne l12, upd_same])), .inl (.inl upd_same), _, rfl, ite2 (fun e9 => ?_) (fun e9 => ?_)⟩
    · refine no (fun z => ?_) _ s3
      obtain ⟨_, f, e2, hi⟩ := z
      have e2 := Option.some.inj e2
      subst e2
      have : ms = tupF n2 fun i => i := sorted_uniq (hperm.trans (iso_perm hi)) hsort (range_sorted n2)
      rw [decide_eq_true this] at e9
      cases e9
    have e3 : ms = tupF n2 fun i => i := by
      by_cases z : ms = tupF n2 fun i => i
      · exact z
      · rw [decide_eq_false z] at e9
        exact absurd rfl e9
    subst e3
    obtain ⟨f, rfl, hf, inj⟩ := perm_tup hperm.symm
    rw [isoT_some hm] at q
    generalize upd (upd H1 l1 (.lst ((tupF n2 fun i => i).map V.int))) l2 (.lst ((tupF n2 fun i => i).map V.int)) = H3 at s3
    refine ⟨.ref a, rfl, a, xa, rfl, .inr (sameT s3 ha1), (n2 : Nat), by rw [ha2], by omega, by omega, ?_⟩
    rw [Int.toNat_natCast]
    refine for_it (walk_range0 (n := n2)) (fun i σ H2 => Same H H2 ∧ (∃ x3 x4, σ = [some (.ref a), some (.ref b), some (.ref p), x3, x4]) ∧ ∀ i' j, i' < i → j < n2 → f (m i' j) = g (f i') (f j)) ⟨s3, ⟨_, _, rfl⟩, fun i' j h => absurd h (by omega)⟩ (fun _ _ _ _ _ => trivial) (fun i y σ H2 H4 hi hP hY => ?_) (fun σ H2 hP => ?_)
    · obtain ⟨rfl, rfl⟩ := hY
      obtain ⟨s4, ⟨x3, x4, rfl⟩, hd⟩ := hP
      refine ⟨.ref a, rfl, a, xa, rfl, .inr (sameT s4 ha1), (n2 : Nat), by rw [ha2], by omega, by omega, ?_⟩
      rw [Int.toNat_natCast]
      refine for_it (walk_range0 (n := n2)) (fun j σ H5 => Same H H5 ∧ (∃ x4, σ = [some (.ref a), some (.ref b), some (.ref p), some (.int (i : Nat)), x4]) ∧ ∀ j', j' < j → f (m i j') = g (f i) (f j')) ⟨s4, ⟨_, rfl⟩, fun j' h => absurd h (by omega)⟩ (fun _ _ _ _ _ => trivial) (fun j y σ H5 H6 hj hP hY => ?_) (fun σ H5 hP => ?_)
      · obtain ⟨rfl, rfl⟩ := hY
        obtain ⟨s6, ⟨x4, rfl⟩, hd2⟩ := hP
        have hS6 := sameT s6 hS
        refine ix_tupF hS6 (hm i j hi hj) (var_is rfl) (fun Q q => ix_tab (ha.same s6) hi hj (var_is rfl) (var_is rfl) (var_is rfl) q) ?_
        refine ix_tab (i := f i) (j := f j) (hb.same s6) (hf i hi) (hf j hj) (var_is rfl) (fun Q q => ix_tupF hS6 hi (var_is rfl) (var_is rfl) q) (fun Q q => ix_tupF hS6 hj (var_is rfl) (var_is rfl) q) ⟨rfl, _, rfl, ?_⟩
        refine ite2 (fun e => ?_) (fun e => ?_)
        · exact q _ false s6 ⟨fun z => Bool.noConfusion z, fun z => absurd (z.hom i j hi hj) (ne_yes e)⟩
        · have e := ne_no e
          refine ⟨s6, ⟨_, rfl⟩, fun j' hj' => ?_⟩
          rcases Nat.lt_or_eq_of_le (Nat.le_of_lt_succ hj') with z | z
          · exact hd2 j' z
          · rw [z]; exact e
      · obtain ⟨s5, ⟨x4, rfl⟩, hd2⟩ := hP
        refine ⟨s5, ⟨_, _, rfl⟩, fun i' j hi' hj => ?_⟩
        rcases Nat.lt_or_eq_of_le (Nat.le_of_lt_succ hi') with z | z
        · exact hd i' j z hj
        · rw [z]; exact hd2 j hj
    · obtain ⟨s4, ⟨x3, x4, rfl⟩, hd⟩ := hP
      exact q H2 true s4 ⟨fun _ => ⟨hf, inj, hd⟩, fun _ => rfl⟩
end
end K38

set_option linter.all false
/-! M2: what `carried` and `first_matching` keep, plainly. -/
namespace K38
def Ext (L : List (Nat × Nat)) (f : Nat → Nat) : Prop := ∀ p ∈ L, f p.1 = p.2
def Hom (m g : Nat → Nat → Nat) (L : List (Nat × Nat)) (x y : Nat) : Prop := ∃ u v, (x, u) ∈ L ∧ (y, v) ∈ L ∧ (m x y, g u v) ∈ L
theorem Hom.mono {m g : Nat → Nat → Nat} {L L' : List (Nat × Nat)} {x y : Nat} (h : Hom m g L x y) (s : ∀ p ∈ L, p ∈ L') : Hom m g L' x y := by
  obtain ⟨u, v, h1, h2, h3⟩ := h
  exact ⟨u, v, s _ h1, s _ h2, s _ h3⟩
theorem key_uniq {L : List (Nat × Nat)} (nd : (L.map (·.1)).Nodup) {x u v : Nat} (h1 : (x, u) ∈ L) (h2 : (x, v) ∈ L) : u = v := by
  induction L with
  | nil => cases h1
  | cons p r ih =>
    rw [List.map_cons, List.nodup_cons] at nd
    rcases List.mem_cons.mp h1 with e1 | e1 <;> rcases List.mem_cons.mp h2 with e2 | e2
    · rw [← e1] at e2; exact (Prod.mk.inj e2).2.symm
    · exact absurd (List.mem_map.mpr ⟨_, e2, by rw [← e1]⟩) nd.1
    · exact absurd (List.mem_map.mpr ⟨_, e1, by rw [← e2]⟩) nd.1
    · exact ih nd.2 e1 e2
theorem key_has {L : List (Nat × Nat)} {x : Nat} (h : x ∈ L.map (·.1)) : ∃ u, (x, u) ∈ L := by
  obtain ⟨p, hp, rfl⟩ := List.mem_map.mp h
  exact ⟨p.2, hp⟩
theorem has_key {L : List (Nat × Nat)} {x u : Nat} (h : (x, u) ∈ L) : x ∈ L.map (·.1) := List.mem_map.mpr ⟨_, h, rfl⟩
structure Car (n : Nat) (m g : Nat → Nat → Nat) (L0 L : List (Nat × Nat)) (rows : List Nat) : Prop where
  nd : (L.map (·.1)).Nodup
  perm : rows.Perm (L.map (·.1))
  lt : ∀ p ∈ L, p.1 < n ∧ p.2 < n
  sub : ∀ p ∈ L0, p ∈ L
  ext : ∀ f, Iso n m g f → Ext L0 f → Ext L f
section
variable {n : Nat} {m g : Nat → Nat → Nat} {L0 L : List (Nat × Nat)} {rows : List Nat}
theorem Car.len (C : Car n m g L0 L rows) : L.length ≤ n := by
  have := nodup_len_le C.nd (n := n) fun x hx => by
    obtain ⟨u, hu⟩ := key_has hx
    exact (C.lt _ hu).1
  rw [List.length_map] at this
  exact this
theorem Car.rlen (C : Car n m g L0 L rows) : rows.length = L.length := by rw [C.perm.length_eq, List.length_map]
theorem Car.row (C : Car n m g L0 L rows) {i x : Nat} (h : rows[i]? = some x) : ∃ u, (x, u) ∈ L ∧ x < n ∧ u < n := by
  obtain ⟨u, hu⟩ := key_has (C.perm.mem_iff.mp (List.mem_of_getElem? h))
  exact ⟨u, hu, C.lt _ hu⟩
theorem Car.add (C : Car n m g L0 L rows) (hm : ∀ i j, i < n → j < n → m i j < n) (hg : ∀ i j, i < n → j < n → g i j < n) {x y u v : Nat} (hx : (x, u) ∈ L) (hy : (y, v) ∈ L) (hn : m x y ∉ L.map (·.1)) :
    Car n m g L0 (L ++ [(m x y, g u v)]) (rows ++ [m x y]) := by
  have lx := C.lt _ hx
  have ly := C.lt _ hy
  refine ⟨?_, ?_, fun p hp => ?_, fun p hp => List.mem_append_left _ (C.sub p hp), fun f hf he p hp => ?_⟩
  · rw [List.map_append, List.nodup_append]
    refine ⟨C.nd, by simp, fun a ha b hb e => ?_⟩
    have : b = m x y := by simpa using hb
    rw [e, this] at ha
    exact hn ha
  · rw [List.map_append]
    exact C.perm.append (List.Perm.refl _)
  · rcases List.mem_append.mp hp with z | z
    · exact C.lt p z
    · have : p = (m x y, g u v) := by simpa using z
      rw [this]
      exact ⟨hm _ _ lx.1 ly.1, hg _ _ lx.2 ly.2⟩
  · rcases List.mem_append.mp hp with z | z
    · exact C.ext f hf he p z
    · have : p = (m x y, g u v) := by simpa using z
      rw [this]
      show f (m x y) = g u v
      have hL := C.ext f hf he
      rw [hf.hom x y lx.1 ly.1, show f x = u from hL _ hx, show f y = v from hL _ hy]
/-- another value at a product: none -/
theorem Car.clash (C : Car n m g L0 L rows) {x y u v w : Nat} (hx : (x, u) ∈ L) (hy : (y, v) ∈ L) (hw : (m x y, w) ∈ L) (hne : w ≠ g u v) : ∀ f, Iso n m g f → ¬ Ext L0 f := fun f hf he => by
  have hL := C.ext f hf he
  have e : f (m x y) = w := hL _ hw
  rw [hf.hom x y (C.lt _ hx).1 (C.lt _ hy).1, show f x = u from hL _ hx, show f y = v from hL _ hy] at e
  exact hne e.symm
structure Clo (n : Nat) (m g : Nat → Nat → Nat) (L0 L : List (Nat × Nat)) : Prop where
  nd : (L.map (·.1)).Nodup
  lt : ∀ p ∈ L, p.1 < n ∧ p.2 < n
  sub : ∀ p ∈ L0, p ∈ L
  ext : ∀ f, Iso n m g f → Ext L0 f → Ext L f
  cl : ∀ x u y v, (x, u) ∈ L → (y, v) ∈ L → (m x y, g u v) ∈ L
  inj : (L.map (·.2)).Nodup
/-- all pairs done -/
theorem Car.clo (C : Car n m g L0 L rows) (hd : ∀ (i j x y : Nat), rows[i]? = some x → rows[j]? = some y → j ≤ i → Hom m g L x y ∧ Hom m g L y x) (inj : (L.map (·.2)).Nodup) : Clo n m g L0 L := by
  refine ⟨C.nd, C.lt, C.sub, C.ext, fun x u y v hx hy => ?_, inj⟩
  obtain ⟨i, hi⟩ := List.getElem?_of_mem (C.perm.mem_iff.mpr (has_key hx))
  obtain ⟨j, hj⟩ := List.getElem?_of_mem (C.perm.mem_iff.mpr (has_key hy))
  have h : Hom m g L x y := by
    rcases Nat.le_total j i with z | z
    · exact (hd i j x y hi hj z).1
    · exact (hd j i y x hj hi z).2
  obtain ⟨u', v', h1, h2, h3⟩ := h
  rw [key_uniq C.nd hx h1, key_uniq C.nd hy h2]
  exact h3
theorem Car.noinj (C : Car n m g L0 L rows) (h : ¬ (L.map (·.2)).Nodup) : ∀ f, Iso n m g f → ¬ Ext L0 f := fun f hf he => by
  have hL := C.ext f hf he
  apply h
  have e : L.map (·.2) = (L.map (·.1)).map f := by
    rw [List.map_map]
    exact List.map_congr_left fun p hp => (hL p hp).symm
  rw [e]
  refine nodup_map_of C.nd fun i hi j hj z => ?_
  obtain ⟨u, hu⟩ := key_has hi
  obtain ⟨v, hv⟩ := key_has hj
  exact hf.inj i j (C.lt _ hu).1 (C.lt _ hv).1 z
theorem Clo.len (C : Clo n m g L0 L) : L.length ≤ n := by
  have := nodup_len_le C.nd (n := n) fun x hx => by
    obtain ⟨u, hu⟩ := key_has hx
    exact (C.lt _ hu).1
  rw [List.length_map] at this
  exact this
theorem sub_len {a b : List (Nat × Nat)} (h : a.Nodup) (s : ∀ p ∈ a, p ∈ b) : a.length ≤ b.length := by
  induction a generalizing b with
  | nil => exact Nat.zero_le _
  | cons p r ih =>
    rw [List.nodup_cons] at h
    have hp : p ∈ b := s p List.mem_cons_self
    have := ih (b := b.erase p) h.2 fun q hq => by
      have ne : q ≠ p := fun e => h.1 (e ▸ hq)
      exact (List.mem_erase_of_ne ne).mpr (s q (List.mem_cons_of_mem _ hq))
    rw [List.length_erase_of_mem hp] at this
    have : 0 < b.length := List.length_pos_of_mem hp
    rw [List.length_cons]
    omega
theorem nd_of_keys {L : List (Nat × Nat)} (h : (L.map (·.1)).Nodup) : L.Nodup := by
  rw [List.nodup_iff_pairwise_ne, List.pairwise_map] at h
  rw [List.nodup_iff_pairwise_ne]
  exact h.imp fun hne e => hne (by rw [e])
/-- all shares told: the only one -/
theorem Clo.full (C : Clo n m g L0 L) {f : Nat → Nat} (hall : ∀ i, i < n → (i, f i) ∈ L) (hm : ∀ i j, i < n → j < n → m i j < n) : Least n (fun f => Iso n m g f ∧ Ext L0 f) f := by
  have ext : Ext L f := fun p hp => key_uniq C.nd (hall p.1 (C.lt p hp).1) hp
  refine ⟨⟨⟨fun i hi => (C.lt _ (hall i hi)).2, fun i j hi hj e => ?_, fun i j hi hj => ext _ (C.cl _ _ _ _ (hall i hi) (hall j hj))⟩, fun p hp => ext p (C.sub p hp)⟩, fun f' hf' => .inl fun i hi => (C.ext f' hf'.1 hf'.2 _ (hall i hi)).symm⟩
  have h2 := C.inj
  have key : ∀ {L : List (Nat × Nat)}, (L.map (·.2)).Nodup → ∀ {a b u : Nat}, (a, u) ∈ L → (b, u) ∈ L → a = b := by
    intro L
    induction L with
    | nil => intro _ a b u h; cases h
    | cons p r ih =>
      intro nd a b u h1 h2
      rw [List.map_cons, List.nodup_cons] at nd
      rcases List.mem_cons.mp h1 with e1 | e1 <;> rcases List.mem_cons.mp h2 with e2 | e2
      · rw [← e1] at e2; exact (Prod.mk.inj e2).1.symm
      · exact absurd (List.mem_map.mpr ⟨_, e2, by rw [← e1]⟩) nd.1
      · exact absurd (List.mem_map.mpr ⟨_, e1, by rw [← e2]⟩) nd.1
      · exact ih nd.2 e1 e2
  exact key h2 (hall i hi) (by rw [e]; exact hall j hj)
theorem ext_snoc {L : List (Nat × Nat)} {x y : Nat} {f : Nat → Nat} : Ext (L ++ [(x, y)]) f ↔ Ext L f ∧ f x = y := by
  constructor
  · intro h
    exact ⟨fun p hp => h p (List.mem_append_left _ hp), h (x, y) (by simp)⟩
  · rintro ⟨h1, h2⟩ p hp
    rcases List.mem_append.mp hp with z | z
    · exact h1 p z
    · have : p = (x, y) := by simpa using z
      rw [this]
      exact h2
/-- the first image that goes on gives the first of all -/
theorem Clo.step (C : Clo n m g L0 L) {x b : Nat} (hx : x < n) (hlow : ∀ i, i < x → i ∈ L.map (·.1)) (hno : ∀ f, Iso n m g f → Ext L0 f → b ≤ f x) {f : Nat → Nat} (hf : Least n (fun f => Iso n m g f ∧ Ext (L ++ [(x, b)]) f) f) :
    Least n (fun f => Iso n m g f ∧ Ext L0 f) f := by
  have e1 := ext_snoc.mp hf.is.2
  refine ⟨⟨hf.is.1, fun p hp => e1.1 p (C.sub p hp)⟩, fun f' hf' => ?_⟩
  have hL := C.ext f' hf'.1 hf'.2
  have hb := hno f' hf'.1 hf'.2
  rcases Nat.lt_or_eq_of_le hb with z | z
  · refine .inr ⟨x, hx, fun i hi => ?_, by rw [e1.2]; exact z⟩
    obtain ⟨u, hu⟩ := key_has (hlow i hi)
    rw [show f i = u from e1.1 _ hu, show f' i = u from hL _ hu]
  · exact hf.le f' ⟨hf'.1, ext_snoc.mpr ⟨hL, z.symm⟩⟩
/-- an image that is taken leads nowhere -/
theorem Clo.taken (C : Clo n m g L0 L) {x : Nat} (hx : x < n) (hnx : x ∉ L.map (·.1)) {f : Nat → Nat} (hf : Iso n m g f) (he : Ext L0 f) : f x ∉ L.map (·.2) := fun z => by
  obtain ⟨p, hp, e⟩ := List.mem_map.mp z
  have e2 : f p.1 = p.2 := C.ext f hf he p hp
  have : p.1 = x := hf.inj _ _ (C.lt p hp).1 hx (by rw [e2, e])
  exact hnx (by rw [← this]; exact List.mem_map.mpr ⟨p, hp, rfl⟩)
end
end K38

set_option Elab.async false
set_option linter.all false
set_option maxRecDepth 100000
set_option maxHeartbeats 4000000
/-! D5: carried. -/
namespace K38
open PySem PySem.Spec PyProof.Rows L2
theorem scCarried : FnScope ["table", "goal", "known", "images", "rows", "at", "place", "one", "two", "product", "image"] ["table", "goal", "known"] (defScope sCarried) := ⟨rfl, rfl, rfl, by decide +kernel, rfl, by decide +kernel, by decide +kernel⟩
/-- a dict of numbers -/
def dk (L : List (Nat × Nat)) : List (Key × V) := L.map fun p => (Sum.inl (p.1 : Int), V.int (p.2 : Nat))
/-- a list of numbers -/
def lN (xs : List Nat) : List V := xs.map fun x => V.int (x : Nat)
theorem lN_ints (xs : List Nat) : lN xs = (xs.map fun x : Nat => (x : Int)).map V.int := by
  unfold lN
  rw [List.map_map]
  rfl
theorem lN_at {xs : List Nat} {i x : Nat} (h : xs[i]? = some x) : (lN xs)[i]? = some (.int (x : Nat)) := by
  unfold lN
  rw [List.getElem?_map, h]
  rfl
theorem lN_len (xs : List Nat) : (lN xs).length = xs.length := by unfold lN; rw [List.length_map]
theorem dk_len (L : List (Nat × Nat)) : (dk L).length = L.length := by unfold dk; rw [List.length_map]
theorem dk_keys (L : List (Nat × Nat)) : (dk L).map (·.1) = ((L.map (·.1)).map fun x : Nat => (x : Int)).map Sum.inl := by
  unfold dk
  rw [List.map_map, List.map_map, List.map_map]
  rfl
theorem dk_vals (L : List (Nat × Nat)) : (dk L).map (·.2) = ((L.map (·.2)).map fun x : Nat => (x : Int)).map V.int := by
  unfold dk
  rw [List.map_map, List.map_map, List.map_map]
  rfl
theorem nd_ints {xs : List Nat} : (xs.map fun x : Nat => (x : Int)).Nodup ↔ xs.Nodup := by
  rw [List.nodup_iff_pairwise_ne, List.nodup_iff_pairwise_ne, List.pairwise_map]
  constructor
  · exact fun h => h.imp fun hne e => hne (by rw [e])
  · exact fun h => h.imp fun hne e => hne (by omega)
theorem dk_get {L : List (Nat × Nat)} (nd : (L.map (·.1)).Nodup) {x u : Nat} (h : (x, u) ∈ L) : valV (dk L) (Sum.inl (x : Int)) = some (.int (u : Nat)) := by
  induction L with
  | nil => cases h
  | cons p r ih =>
    rw [List.map_cons, List.nodup_cons] at nd
    rcases List.mem_cons.mp h with e | e
    · subst e
      exact valV_pos rfl
    · show valV ((Sum.inl (p.1 : Int), V.int (p.2 : Nat)) :: dk r) _ = _
      rw [valV_neg]
      · exact ih nd.2 e
      · intro z
        have z : (p.1 : Int) = (x : Int) := Sum.inl.inj z
        have z2 : p.1 = x := by omega
        exact nd.1 (z2 ▸ has_key e)
theorem dk_none {L : List (Nat × Nat)} {x : Nat} (h : x ∉ L.map (·.1)) : valV (dk L) (Sum.inl (x : Int)) = none := by
  induction L with
  | nil => rfl
  | cons p r ih =>
    rw [List.map_cons, List.mem_cons] at h
    show valV ((Sum.inl (p.1 : Int), V.int (p.2 : Nat)) :: dk r) _ = _
    rw [valV_neg]
    · exact ih fun z => h (.inr z)
    · intro z
      have z : (p.1 : Int) = (x : Int) := Sum.inl.inj z
      exact h (.inl (by omega))
theorem dk_put {L : List (Nat × Nat)} {x u : Nat} (h : x ∉ L.map (·.1)) : putK (dk L) (Sum.inl (x : Int)) (V.int (u : Nat)) = dk (L ++ [(x, u)]) := by
  rw [putK_new _ (dk_none h)]
  unfold dk
  rw [List.map_append]
  rfl
theorem rd_same {H H' : Hp} {a : Addr} {u : HO} (e : Same H H') (h : Rd H a u) : Rd H' a u := by
  rcases h with h | ⟨o, h⟩
  · exact .inl (e _ _ h)
  · exact .inr ⟨o, e _ _ h⟩
/-- a tuple stands while a dict changes -/
theorem sqT_updD {K : PySem.W.Frag} {H : Hp} {r D : Addr} {xs : List V} {ks : List (Key × V)} {o : HO} (h : SqT K H r xs) (hD : H D = some (.dK ks)) : SqT K (upd H D o) r xs := by
  rcases h with (h | ⟨b, h⟩) | h
  · have ne : r ≠ D := fun e => by rw [e, hD] at h; cases h
    exact .inl (.inl (by rw [upd_ne ne]; exact h))
  · have ne : r ≠ D := fun e => by rw [e, hD] at h; cases h
    exact .inl (.inr ⟨b, by rw [upd_ne ne]; exact h⟩)
  · exact .inr h
def Done (m g : Nat → Nat → Nat) (L : List (Nat × Nat)) (rows : List Nat) (t : Nat) : Prop := ∀ (i j x y : Nat), rows[i]? = some x → rows[j]? = some y → i < t → j ≤ i → Hom m g L x y ∧ Hom m g L y x
def DoneR (m g : Nat → Nat → Nat) (L : List (Nat × Nat)) (rows : List Nat) (t k : Nat) : Prop := ∀ (j x y : Nat), rows[t]? = some x → rows[j]? = some y → j < k → Hom m g L x y ∧ Hom m g L y x
theorem app_at {rows : List Nat} {z i x : Nat} (hi : i < rows.length) (h : (rows ++ [z])[i]? = some x) : rows[i]? = some x := by
  rw [List.getElem?_append_left hi] at h
  exact h
theorem Done.add {m g : Nat → Nat → Nat} {L L' : List (Nat × Nat)} {rows : List Nat} {t z : Nat} (h : Done m g L rows t) (ht : t ≤ rows.length) (s : ∀ p ∈ L, p ∈ L') : Done m g L' (rows ++ [z]) t := fun i j x y hi hj hit hji => by
  obtain ⟨h1, h2⟩ := h i j x y (app_at (by omega) hi) (app_at (by omega) hj) hit hji
  exact ⟨h1.mono s, h2.mono s⟩
theorem DoneR.add {m g : Nat → Nat → Nat} {L L' : List (Nat × Nat)} {rows : List Nat} {t k z : Nat} (h : DoneR m g L rows t k) (ht : t < rows.length) (hk : k ≤ rows.length) (s : ∀ p ∈ L, p ∈ L') : DoneR m g L' (rows ++ [z]) t k := fun j x y hi hj hjk => by
  obtain ⟨h1, h2⟩ := h j x y (app_at ht hi) (app_at (by omega) hj) hjk
  exact ⟨h1.mono s, h2.mono s⟩
section
variable {P : Program} {w : World} {K : PySem.W.Frag} {mg : Str → Option Value} {base : Heap}
def spCarried (K : PySem.W.Frag) : Sp := fun vs H Q _ => ∃ (a b d : Addr) (n : Nat) (m g : Nat → Nat → Nat) (L0 : List (Nat × Nat)), vs = [.ref a, .ref b, .ref d] ∧ TabAt K H a n m ∧ TabAt K H b n g ∧ n ≤ 60 ∧
  (∀ i j, i < n → j < n → m i j < n) ∧ (∀ i j, i < n → j < n → g i j < n) ∧ Rd H d (.dK (dk L0)) ∧ (L0.map (·.1)).Nodup ∧ (∀ p ∈ L0, p.1 < n ∧ p.2 < n) ∧
  (∀ H', Same H H' → (∀ f, Iso n m g f → ¬ Ext L0 f) → Q .non H') ∧ ∀ H' p L, Same H H' → H p = none → H' p = some (.dK (dk L)) → Clo n m g L0 L → Q (.ref p) H'
theorem ok_carried {f : Addr} {fd : FuncData} (B : Bn mg) (D : Df K mg "carried" sCarried ["table", "goal", "known"] f fd) : FnOk P w K mg base CX0 1 f fd ["table", "goal", "known"] (spCarried K) := by
  refine D.F.ok scCarried (fun vs H Q E h => ?_) (fun cdv A outer s H vs Q E hr h => ?_)
  · obtain ⟨a, b, d, n, m, g, L0, rfl, _⟩ := h
    rfl
  · obtain ⟨a, b, d, n, m, g, L0, rfl, ha, hb, hz, hm, hg, hd, nd0, lt0, q1, q2⟩ := h
    have hu := hu_of hr
    refine ⟨_, pss_cons (ps_par3 (i := 3) (j := 4) (l := 5) rfl scCarried.nd rfl rfl rfl (by decide) (by decide) (by decide) rfl rfl rfl
        (pa_cons (pe_callTy call_dictD (by rfl) B.dict b_dict (pa_cons (pv 2) pa_nil)) (pa_cons (pe_callB (call_sortedDI rfl) (by rfl) B.sorted b_sorted (pa_cons (pv 2) pa_nil)) (pa_cons pe_int pa_nil))) (by rfl))
      (pss_cons (ps_while PassesOwn.never (pt_cmpR op_lt (pv 5) (pe_callB call_len_seq (by rfl) B.len b_len (pa_cons (pv 4) pa_nil)) (nomark _))
        (pss_cons (ps_for PassesOwn.never rfl (pi_range1 (by rfl) B.range (pa_cons (pe_op op_add (pv 5) pe_int) pa_nil)) (pg_name (i := 6) scCarried.nd rfl (Or.inl rfl))
          (pss_one (ps_for PassesOwn.never rfl (pi_tup (pe_tup (pa_cons (pe_tup (pa_cons (pe_ix ix_list (pv 4) (pv 5) (fun _ _ => rfl)) (pa_cons (pe_ix ix_list (pv 4) (pv 6) (fun _ _ => rfl)) pa_nil)))
              (pa_cons (pe_tup (pa_cons (pe_ix ix_list (pv 4) (pv 6) (fun _ _ => rfl)) (pa_cons (pe_ix ix_list (pv 4) (pv 5) (fun _ _ => rfl)) pa_nil))) pa_nil))))
            (pg_tup (n := 2) rfl (pgs_cons (pg_name (i := 7) scCarried.nd rfl (Or.inl rfl)) (pgs_cons (pg_name (i := 8) scCarried.nd rfl (Or.inl rfl)) pgs_nil)))
            (pss_cons (ps_par (i := 9) (j := 10) rfl scCarried.nd rfl rfl (by decide) rfl rfl (pa_cons (pe_ix ix_tup (pe_ix ix_tup (pv 0) (pv 7) (fun _ _ => rfl)) (pv 8) (fun _ _ => rfl))
                (pa_cons (pe_ix ix_tup (pe_ix ix_tup (pv 1) (pe_dget hu (pv 3) (pv 7) (fun _ _ => rfl)) (fun _ _ => rfl)) (pe_dget hu (pv 3) (pv 8) (fun _ _ => rfl)) (fun _ _ => rfl)) pa_nil)) (by rfl))
            (pss_cons (ps_if (pt_cmp (pc_dnotin hu (pv 9) (pv 3))) (pss_cons (ps_dput hu (pv 3) (pv 9) (pv 10) (by rfl)) (pss_one (ps_expr (pe_bm PySem.F.plainAttrs_list PySem.F.slot_list_append PySem.F.type_list_append mt_append (pv 4) (pa_cons (pv 9) pa_nil))))) pss_nil)
            (pss_one (ps_if (pt_cmpR op_ne (pe_dget hu (pv 3) (pv 9) (fun _ _ => rfl)) (pv 10) (nomark _)) (pss_one (ps_ret pe_non)) pss_nil)))))))
        (pss_one (ps_aug (i := 5) scCarried.nd rfl (Or.inl rfl) pe_int ip_add))))
      (pss_one (ps_ret (pe_ifExp (pt_cmpR op_eq (pe_lenSetX (by rfl) B.len (by rfl) B.set (pe_listVals rfl (by rfl) B.list (pv 3))) (pe_callB call_lenD (by rfl) B.len b_len (pa_cons (pv 3) pa_nil)) (nomark _)) (pv 3) pe_non)))), ?_⟩
    have hl0 : L0.length ≤ n := by
      have := nodup_len_le nd0 (n := n) fun x hx => by
        obtain ⟨u, hu⟩ := key_has hx
        exact (lt0 _ hu).1
      rw [List.length_map] at this
      exact this
    refine ⟨.ref d, rfl, d, dk L0, rfl, hd, fun p1 hp1 => ⟨.ref d, rfl, d, dk L0, _, rfl, rd_same (same_new hp1) hd, dk_keys L0, by rw [List.length_map, List.length_map]; omega, fun ys p2 hperm hsort hp2 => ⟨_, _, _, rfl, ?_⟩⟩⟩
    obtain ⟨rows0, rfl, hrows0⟩ : ∃ rows0 : List Nat, ys = rows0.map (fun x : Nat => (x : Int)) ∧ rows0.Perm (L0.map (·.1)) := by
      refine ⟨ys.map Int.toNat, ?_, ?_⟩
      · rw [List.map_map]
        have : ∀ y ∈ ys, ((fun x : Nat => (x : Int)) ∘ Int.toNat) y = y := fun y hy => by
          obtain ⟨x, _, rfl⟩ := List.mem_map.mp (hperm.mem_iff.mp hy)
          rfl
        exact (List.map_id ys).symm.trans (List.map_congr_left fun y hy => (this y hy).symm)
      · have := hperm.map Int.toNat
        rw [List.map_map, List.map_map] at this
        have e : L0.map ((Int.toNat ∘ fun x : Nat => (x : Int)) ∘ fun x : Nat × Nat => x.1) = L0.map (·.1) := List.map_congr_left fun p _ => rfl
        rw [e] at this
        exact this
    have hp2H : H p2 = none := (same_new hp1).free hp2
    have p12 : p1 ≠ p2 := ne_of_none upd_same hp2
    refine ⟨fun k σ H1 => ∃ (t : Nat) (L : List (Nat × Nat)) (rows : List Nat) (x6 x7 x8 x9 x10 : Option V), k = n - t ∧ t ≤ rows.length ∧ σ = [some (.ref a), some (.ref b), some (.ref d), some (.ref p1), some (.ref p2), some (.int (t : Nat)), x6, x7, x8, x9, x10] ∧
      Same H H1 ∧ H1 p1 = some (.dK (dk L)) ∧ H1 p2 = some (.lst (lN rows)) ∧ Car n m g L0 L rows ∧ Done m g L rows t,
      ⟨n, 0, L0, rows0, _, _, _, _, _, rfl, Nat.zero_le _, rfl, (same_new hp1).trans (same_new hp2), by rw [upd_ne p12, upd_same], by rw [upd_same, lN_ints], ⟨nd0, hrows0, lt0, fun p hp => hp, fun f _ he => he⟩, fun i j x y _ _ h => absurd h (by omega)⟩, fun k σ H1 hW => ?_⟩
    obtain ⟨t, L, rows, x6, x7, x8, x9, x10, rfl, htl, rfl, s1, hI, hR, C, hdone⟩ := hW
    refine ⟨.int (t : Nat), rfl, .ref p2, rfl, p2, lN rows, rfl, .inl (.inl (.inl hR)), (t : Nat), ((lN rows).length : Nat), rfl, rfl, _, rfl, ite2 (fun e => ?_) (fun e => ?_)⟩
    · rw [lN_len] at e
      have ht : t < rows.length := by have := of_decide_eq_true e; omega
      have hln := C.len
      have hrl := C.rlen
      refine ⟨fun σ' H' => ∃ (L : List (Nat × Nat)) (rows : List Nat) (x6 x7 x8 x9 x10 : Option V), t + 1 ≤ rows.length ∧ σ' = [some (.ref a), some (.ref b), some (.ref d), some (.ref p1), some (.ref p2), some (.int ((t + 1 : Nat) : Nat)), x6, x7, x8, x9, x10] ∧
        Same H H' ∧ H' p1 = some (.dK (dk L)) ∧ H' p2 = some (.lst (lN rows)) ∧ Car n m g L0 L rows ∧ Done m g L rows (t + 1), fun σ' H' hN => ?_, ?_⟩
      · obtain ⟨L, rows, x6, x7, x8, x9, x10, h1, rfl, h3, h4, h5, h6, h7⟩ := hN
        exact ⟨n - (t + 1), by omega, t + 1, L, rows, x6, x7, x8, x9, x10, rfl, h1, rfl, h3, h4, h5, h6, h7⟩
      · refine ⟨.int (t : Nat), rfl, (t : Nat), 1, rfl, rfl, ((t : Nat) : Int) + 1, rfl, by omega, by omega, ?_⟩
        have et : (((t : Nat) : Int) + 1).toNat = t + 1 := by omega
        rw [et]
        refine for_it (walk_range0 (n := t + 1)) (fun j σ H2 => ∃ (L : List (Nat × Nat)) (rows : List Nat) (x6 x7 x8 x9 x10 : Option V), t < rows.length ∧ σ = [some (.ref a), some (.ref b), some (.ref d), some (.ref p1), some (.ref p2), some (.int (t : Nat)), x6, x7, x8, x9, x10] ∧
          Same H H2 ∧ H2 p1 = some (.dK (dk L)) ∧ H2 p2 = some (.lst (lN rows)) ∧ Car n m g L0 L rows ∧ Done m g L rows t ∧ DoneR m g L rows t j) ⟨L, rows, _, _, _, _, _, ht, rfl, s1, hI, hR, C, hdone, fun j x y _ _ h => absurd h (by omega)⟩ (fun _ _ _ _ _ => trivial) (fun j y0 σ H3 H2 hj hP hY => ?_) (fun σ H2 hP => ?_)
        · obtain ⟨rfl, rfl⟩ := hY
          clear hI hR C hdone hln hrl e ht htl s1
          obtain ⟨L, rows, x6, x7, x8, x9, x10, ht, rfl, s2, hI, hR, C, hdone, hdr⟩ := hP
          obtain ⟨x, hx⟩ : ∃ x, rows[t]? = some x := ⟨_, List.getElem?_eq_getElem ht⟩
          obtain ⟨y, hy⟩ : ∃ y, rows[j]? = some y := ⟨_, List.getElem?_eq_getElem (show j < rows.length by omega)⟩
          refine ⟨.ref p2, rfl, .int (t : Nat), rfl, p2, lN rows, (t : Nat), .int (x : Nat), rfl, rfl, .inl (.inl hR), atI_nat (lN_at hx), .ref p2, rfl, .int (j : Nat), rfl, p2, lN rows, (j : Nat), .int (y : Nat), rfl, rfl, .inl (.inl hR), atI_nat (lN_at hy), by show 2 ≤ sizeLine; decide, fun t1 ht1 => ?_⟩
          have hR1 := (same_new (o := .tup [V.int (x : Nat), V.int (y : Nat)]) ht1) _ _ hR
          refine ⟨.ref p2, rfl, .int (j : Nat), rfl, p2, lN rows, (j : Nat), .int (y : Nat), rfl, rfl, .inl (.inl hR1), atI_nat (lN_at hy), .ref p2, rfl, .int (t : Nat), rfl, p2, lN rows, (t : Nat), .int (x : Nat), rfl, rfl, .inl (.inl hR1), atI_nat (lN_at hx), by show 2 ≤ sizeLine; decide, fun t2 ht2 => ⟨by show 2 ≤ sizeLine; decide, fun T hT => ⟨T, rfl, ⟨_, seqT_new⟩, ?_⟩⟩⟩
          have sT1 := sameT (same_new (o := .tup [V.ref t1, V.ref t2]) hT) (sameT (K := K) (same_new (o := .tup [V.int (y : Nat), V.int (x : Nat)]) ht2) (seqT_new (K := K) (H := H2) (p := t1) (xs := [V.int (x : Nat), V.int (y : Nat)])))
          have sT2 := sameT (same_new (o := .tup [V.ref t1, V.ref t2]) hT) (seqT_new (K := K) (H := upd H2 t1 (.tup [V.int (x : Nat), V.int (y : Nat)])) (p := t2) (xs := [V.int (y : Nat), V.int (x : Nat)]))
          have sT := seqT_new (K := K) (H := upd (upd H2 t1 (.tup [V.int (x : Nat), V.int (y : Nat)])) t2 (.tup [V.int (y : Nat), V.int (x : Nat)])) (p := T) (xs := [V.ref t1, V.ref t2])
          have s5 := ((same_new (o := .tup [V.int (x : Nat), V.int (y : Nat)]) ht1).trans (same_new (o := .tup [V.int (y : Nat), V.int (x : Nat)]) ht2)).trans (same_new (o := .tup [V.ref t1, V.ref t2]) hT)
          generalize upd (upd (upd H2 t1 (.tup [V.int (x : Nat), V.int (y : Nat)])) t2 (.tup [V.int (y : Nat), V.int (x : Nat)])) T (.tup [V.ref t1, V.ref t2]) = H5 at *
          refine for_it (walk_tup (xs := [V.ref t1, V.ref t2])) (fun k σ H6 => ∃ (L : List (Nat × Nat)) (rows : List Nat) (x7 x8 x9 x10 : Option V), t < rows.length ∧ σ = [some (.ref a), some (.ref b), some (.ref d), some (.ref p1), some (.ref p2), some (.int (t : Nat)), some (.int (j : Nat)), x7, x8, x9, x10] ∧
            Same H H6 ∧ H6 p1 = some (.dK (dk L)) ∧ H6 p2 = some (.lst (lN rows)) ∧ Car n m g L0 L rows ∧ Done m g L rows t ∧ DoneR m g L rows t j ∧ rows[t]? = some x ∧ rows[j]? = some y ∧ SqT K H6 t1 [V.int (x : Nat), V.int (y : Nat)] ∧ SqT K H6 t2 [V.int (y : Nat), V.int (x : Nat)] ∧ SqT K H6 T [V.ref t1, V.ref t2] ∧
            (1 ≤ k → Hom m g L x y) ∧ (2 ≤ k → Hom m g L y x)) ⟨L, rows, _, _, _, _, ht, rfl, s2.trans s5, s5 _ _ hI, s5 _ _ hR, C, hdone, hdr, hx, hy, sT1, sT2, sT, fun h => absurd h (by omega), fun h => absurd h (by omega)⟩
            (fun k σ H6 _ h => by obtain ⟨_, _, _, _, _, _, _, _, _, _, _, _, _, _, _, _, _, _, h, _⟩ := h; exact h) (fun k y1 σ H6 H7 hk hP hY => ?_) (fun σ H6 hP => ?_)
          · obtain ⟨rfl, hy1⟩ := hY
            clear hI hR C hdone hdr hx hy sT1 sT2 sT s5 s2 ht hR1
            obtain ⟨L, rows, x7, x8, x9, x10, ht, rfl, s6, hI, hR, C, hdone, hdr, hx, hy, sT1, sT2, sT, hk1, hk2⟩ := hP
            obtain ⟨u0, hxu, lx⟩ := C.row hx
            obtain ⟨v0, hyv, ly⟩ := C.row hy
            obtain ⟨tt, p, q, u, v, rfl, hS, hp, hq, hcon⟩ : ∃ (tt : Addr) (p q u v : Nat), y1 = .ref tt ∧ SqT K H7 tt [V.int (p : Nat), V.int (q : Nat)] ∧ (p, u) ∈ L ∧ (q, v) ∈ L ∧ ∀ L' : List (Nat × Nat), (∀ r ∈ L, r ∈ L') → Hom m g L' p q → (1 ≤ k + 1 → Hom m g L' x y) ∧ (2 ≤ k + 1 → Hom m g L' y x) := by
              rcases Nat.lt_or_ge k 1 with z | z
              · have z : k = 0 := by omega
                subst z
                exact ⟨t1, x, y, u0, v0, (Option.some.inj hy1).symm, sT1, hxu, hyv, fun L' hs hh => ⟨fun _ => hh, fun h => absurd h (by omega)⟩⟩
              · have hk : k < 2 := hk
                have z : k = 1 := by omega
                subst z
                exact ⟨t2, y, x, v0, u0, (Option.some.inj hy1).symm, sT2, hyv, hxu, fun L' hs hh => ⟨fun _ => (hk1 (Nat.le_refl 1)).mono hs, fun _ => hh⟩⟩
            have lp := C.lt _ hp
            have lq := C.lt _ hq
            have hln := C.len
            have hrl := C.rlen
            refine ⟨tt, _, rfl, hS, rfl, _, _, rfl, _, _, rfl, rfl, ?_⟩
            refine ix_tab (i := p) (j := q) (ha.same s6) lp.1 lq.1 (var_is rfl) (var_is rfl) (var_is rfl) ?_
            refine ix_tab (i := u) (j := v) (hb.same s6) lp.2 lq.2 (var_is rfl) (fun Q q0 => ⟨.ref p1, rfl, .int (p : Nat), rfl, p1, .int (u : Nat), rfl, .inl ⟨dk L, Sum.inl (p : Int), .inl hI, rfl, (dk_get C.nd hp).symm⟩, q0⟩)
              (fun Q q0 => ⟨.ref p1, rfl, .int (q : Nat), rfl, p1, .int (v : Nat), rfl, .inl ⟨dk L, Sum.inl (q : Int), .inl hI, rfl, (dk_get C.nd hq).symm⟩, q0⟩) ⟨_, _, rfl, ?_⟩
            refine ⟨.int (m p q : Nat), rfl, .ref p1, rfl, p1, valV (dk L) (Sum.inl ((m p q : Nat) : Int)), rfl, .inl ⟨dk L, Sum.inl ((m p q : Nat) : Int), .inl hI, rfl, rfl⟩, _, rfl, ?_⟩
            by_cases hmem : m p q ∈ L.map (·.1)
            · obtain ⟨w0, hw⟩ := key_has hmem
              rw [dk_get C.nd hw]
              refine iteF ?_
              refine ⟨.ref p1, rfl, .int (m p q : Nat), rfl, p1, .int (w0 : Nat), rfl, .inl ⟨dk L, Sum.inl ((m p q : Nat) : Int), .inl hI, rfl, (dk_get C.nd hw).symm⟩, .int (g u v : Nat), rfl, rfl, _, rfl, ite2 (fun e => ?_) (fun e => ?_)⟩
              · exact q1 _ s6 (C.clash hp hq hw (ne_yes e))
              · have e := ne_no e
                subst e
                obtain ⟨c1, c2⟩ := hcon L (fun r h => h) ⟨u, v, hp, hq, hw⟩
                exact ⟨L, rows, _, _, _, _, ht, rfl, s6, hI, hR, C, hdone, hdr, hx, hy, sT1, sT2, sT, c1, c2⟩
            · rw [dk_none hmem]
              refine iteT ?_
              have C2 := C.add hm hg hp hq hmem
              have p21 : p2 ≠ p1 := fun z => p12 z.symm
              refine ⟨.int (g u v : Nat), rfl, .ref p1, rfl, .int (m p q : Nat), rfl, p1, _, rfl, .inl ⟨dk L, Sum.inl ((m p q : Nat) : Int), hI, rfl, by rw [dk_len]; exact szl (by omega), rfl⟩, ?_⟩
              rw [dk_put hmem]
              have hR2 : upd H7 p1 (.dK (dk (L ++ [(m p q, g u v)]))) p2 = some (.lst (lN rows)) := by rw [upd_ne p21]; exact hR
              refine ⟨.ref p2, rfl, .inl ⟨rfl, _, .inl (.inl hR2)⟩, .int (m p q : Nat), rfl, p2, lN rows, .int (m p q : Nat), rfl, rfl, hR2, by rw [lN_len]; exact szl (by omega), ?_⟩
              have eR : lN rows ++ [V.int (m p q : Nat)] = lN (rows ++ [m p q]) := by
                unfold lN
                rw [List.map_append]
                rfl
              rw [eR]
              have sub : ∀ r ∈ L, r ∈ L ++ [(m p q, g u v)] := fun r h => List.mem_append_left _ h
              have new : (m p q, g u v) ∈ L ++ [(m p q, g u v)] := List.mem_append_right _ (List.mem_singleton.mpr rfl)
              have f1 : SqT K (upd (upd H7 p1 (.dK (dk (L ++ [(m p q, g u v)])))) p2 (.lst (lN (rows ++ [m p q])))) t1 [V.int (x : Nat), V.int (y : Nat)] := sqT_upd (sqT_updD sT1 hI) hR2
              have f2 : SqT K (upd (upd H7 p1 (.dK (dk (L ++ [(m p q, g u v)])))) p2 (.lst (lN (rows ++ [m p q])))) t2 [V.int (y : Nat), V.int (x : Nat)] := sqT_upd (sqT_updD sT2 hI) hR2
              have f3 : SqT K (upd (upd H7 p1 (.dK (dk (L ++ [(m p q, g u v)])))) p2 (.lst (lN (rows ++ [m p q])))) T [V.ref t1, V.ref t2] := sqT_upd (sqT_updD sT hI) hR2
              have f4 : Same H (upd (upd H7 p1 (.dK (dk (L ++ [(m p q, g u v)])))) p2 (.lst (lN (rows ++ [m p q])))) := fun c o z => by
                rw [upd_ne (ne_of_none z hp2H), upd_ne (ne_of_none z hp1)]
                exact s6 c o z
              have f5 : upd (upd H7 p1 (.dK (dk (L ++ [(m p q, g u v)])))) p2 (.lst (lN (rows ++ [m p q]))) p1 = some (.dK (dk (L ++ [(m p q, g u v)]))) := by rw [upd_ne p12, upd_same]
              have f6 : upd (upd H7 p1 (.dK (dk (L ++ [(m p q, g u v)])))) p2 (.lst (lN (rows ++ [m p q]))) p2 = some (.lst (lN (rows ++ [m p q]))) := upd_same
              generalize upd (upd H7 p1 (.dK (dk (L ++ [(m p q, g u v)])))) p2 (.lst (lN (rows ++ [m p q]))) = H8 at *
              refine ⟨.ref p1, rfl, .int (m p q : Nat), rfl, p1, .int (g u v : Nat), rfl, .inl ⟨dk (L ++ [(m p q, g u v)]), Sum.inl ((m p q : Nat) : Int), .inl f5, rfl, (dk_get C2.nd new).symm⟩, .int (g u v : Nat), rfl, rfl, _, rfl, ite2 (fun e => absurd rfl (ne_yes e)) (fun _ => ?_)⟩
              obtain ⟨c1, c2⟩ := hcon _ sub ⟨u, v, sub _ hp, sub _ hq, new⟩
              exact ⟨L ++ [(m p q, g u v)], rows ++ [m p q], _, _, _, _, by rw [List.length_append]; omega, rfl, f4, f5, f6, C2, hdone.add (Nat.le_of_lt ht) sub, hdr.add ht (by omega) sub, by rw [List.getElem?_append_left ht]; exact hx, by rw [List.getElem?_append_left (by omega)]; exact hy, f1, f2, f3, c1, c2⟩
          · clear hI hR C hdone hdr hx hy sT1 sT2 sT s5 s2 ht hR1
            obtain ⟨L, rows, x7, x8, x9, x10, ht, rfl, s6, hI, hR, C, hdone, hdr, hx, hy, sT1, sT2, sT, hk1, hk2⟩ := hP
            refine ⟨L, rows, _, _, _, _, _, ht, rfl, s6, hI, hR, C, hdone, fun j' x' y' h1 h2 h3 => ?_⟩
            rcases Nat.lt_or_eq_of_le (Nat.le_of_lt_succ h3) with z | z
            · exact hdr j' x' y' h1 h2 z
            · subst z
              rw [hx] at h1
              rw [hy] at h2
              cases h1
              cases h2
              exact ⟨hk1 (by show 1 ≤ 2; decide), hk2 (by show 2 ≤ 2; decide)⟩
        · clear hI hR C hdone hln hrl e ht htl s1
          obtain ⟨L, rows, x6, x7, x8, x9, x10, ht, rfl, s2, hI, hR, C, hdone, hdr⟩ := hP
          refine ⟨_, rfl, _, _, rfl, rfl, ?_⟩
          refine ⟨L, rows, _, _, _, _, _, ht, rfl, s2, hI, hR, C, fun i j x y h1 h2 h3 h4 => ?_⟩
          rcases Nat.lt_or_eq_of_le (Nat.le_of_lt_succ h3) with z | z
          · exact hdone i j x y h1 h2 z h4
          · subst z
            exact hdr j x y h1 h2 (by omega)
    · rw [lN_len] at e
      have ht : t = rows.length := by
        have : ¬ ((t : Nat) : Int) < (rows.length : Nat) := fun z => e (decide_eq_true z)
        omega
      subst ht
      have hln := C.len
      refine ⟨.ref p1, rfl, p1, dk L, rfl, hI, fun q hq => ?_⟩
      rw [dk_vals]
      have s3 : Same H (upd H1 q (.lst (((L.map (·.2)).map fun x : Nat => (x : Int)).map V.int))) := s1.trans (same_new hq)
      refine ⟨q, (L.map (·.2)).map fun x : Nat => (x : Int), rfl, .inl (.inl (.inl upd_same)), by rw [List.length_map, List.length_map]; omega, fun c hc1 hc2 => ?_⟩
      rw [List.length_map, List.length_map] at hc1 hc2
      have hI2 := (same_new (o := .lst (((L.map (·.2)).map fun x : Nat => (x : Int)).map V.int)) hq) _ _ hI
      refine ⟨.ref p1, rfl, p1, dk L, rfl, hI2, ?_⟩
      rw [dk_len]
      refine ⟨rfl, _, rfl, ite2 (fun e => ?_) (fun e => ?_)⟩
      · have e1 : c = L.length := Int.ofNat.inj (V.int.inj (of_decide_eq_true e))
        refine ⟨.ref p1, rfl, q2 _ _ L s3 hp1 hI2 (C.clo (fun i j x y h1 h2 h3 => hdone i j x y h1 h2 ?_ h3) (nd_ints.mp (hc2.mp e1)))⟩
        exact (List.getElem?_eq_some_iff.mp h1).1
      · refine q1 _ s3 (C.noinj fun z => e ?_)
        rw [hc2.mpr (nd_ints.mpr z)]
        exact decide_eq_true rfl
end
end K38

set_option Elab.async false
set_option linter.all false
set_option maxRecDepth 100000
set_option maxHeartbeats 4000000
/-! D6: first_matching. -/
namespace K38
open PySem PySem.Spec PyProof.Rows L2
theorem scFirstMatching : FnScope ["table", "goal", "known", "images", "left", "taken", "image", "more", "found", "share"] ["table", "goal", "known"] (defScope sFirstMatching) := ⟨rfl, rfl, rfl, by decide +kernel, rfl, by decide +kernel, by decide +kernel⟩
theorem hu65 {A : Around} {k : Nat} (hr : Room k A) : A.units + 65 < cLine := by have := hr.un; omega
theorem filter_head {n : Nat} {p : Nat → Bool} {x : Nat} {r : List Nat} (h : (List.range n).filter p = x :: r) : x < n ∧ p x = true ∧ ∀ i, i < x → p i = false := by
  have e : ((List.range n).filter p).head? = some x := by rw [h]; rfl
  rw [List.head?_filter, List.find?_range_eq_some] at e
  refine ⟨List.mem_range.mp e.2.1, e.1, fun i hi => ?_⟩
  have := e.2.2 i hi
  simpa using this
section
variable {P : Program} {w : World} {K : PySem.W.Frag} {mg : Str → Option Value} {base : Heap} {fI fN fB : Addr} {fdI fdN fdB : FuncData}
def spFirst (K : PySem.W.Frag) (dd : Nat) : Sp := fun vs H Q _ => ∃ (a b d : Addr) (n : Nat) (m g : Nat → Nat → Nat) (L0 : List (Nat × Nat)), vs = [.ref a, .ref b, .ref d] ∧ TabAt K H a n m ∧ TabAt K H b n g ∧ Grp n m ∧ Grp n g ∧ n ≤ 60 ∧
  Rd H d (.dK (dk L0)) ∧ (L0.map (·.1)).Nodup ∧ (∀ p ∈ L0, p.1 < n ∧ p.2 < n) ∧ n < L0.length + dd ∧
  (∀ H', Same H H' → (∀ f, Iso n m g f → ¬ Ext L0 f) → Q .non H') ∧ ∀ H' p f, Same H H' → SqT K H' p ((tupF n f).map V.int) → Least n (fun f => Iso n m g f ∧ Ext L0 f) f → Q (.ref p) H'
theorem ok_first {fS fO fC f : Addr} {fd fdS fdO fdC : FuncData} (L : Low K mg fI fN fB fdI fdN fdB) (DS : Df K mg "need_share" sNeedShare ["table", "value"] fS fdS) (DO : Df K mg "order_of" sOrderOf ["table", "one"] fO fdO) (DC : Df K mg "carried" sCarried ["table", "goal", "known"] fC fdC)
    (D : Df K mg "first_matching" sFirstMatching ["table", "goal", "known"] f fd) : ∀ dd : Nat, FnOk P w K mg base CX0 (6 + dd) f fd ["table", "goal", "known"] (spFirst K dd)
  | 0 => by
    refine D.F.ok (k := 5) scFirstMatching (fun vs H Q E h => ?_) (fun cdv A outer s H vs Q E hr h => ?_)
    · obtain ⟨a, b, d, n, m, g, L0, rfl, _⟩ := h
      rfl
    · exfalso
      obtain ⟨a, b, d, n, m, g, L0, rfl, ha, hb, G, G', hz, hd, nd0, lt0, hlt, _⟩ := h
      have := nodup_len_le nd0 (n := n) fun x hx => by
        obtain ⟨u, hu⟩ := key_has hx
        exact (lt0 _ hu).1
      rw [List.length_map] at this
      omega
  | dd + 1 => by
    have ih := ok_first L DS DO DC D dd
    refine D.F.ok (k := 6 + dd) scFirstMatching (fun vs H Q E h => ?_) (fun cdv A outer s H vs Q E hr h => ?_)
    · obtain ⟨a, b, d, n, m, g, L0, rfl, _⟩ := h
      rfl
    · obtain ⟨a, b, d, n, m, g, L0, rfl, ha, hb, G, G', hz, hd, nd0, lt0, hlt, q1, q2⟩ := h
      have hu := hu_of hr
      refine ⟨_, pss_cons (ps_set (i := 3) scFirstMatching.nd rfl (Or.inr rfl) (pe_call (ok_carried L.B DC) (hr.mono (by omega)) (by rfl) DC.g DC.F.kp DC.b .nil pass0 (pa_cons (pv 0) (pa_cons (pv 1) (pa_cons (pv 2) pa_nil)))))
        (pss_cons (ps_if (pt_cmp (pc_isN (pv 3))) (pss_one (ps_ret pe_non)) pss_nil)
        (pss_cons (ps_setLc (i := 4) (own := [("share", 9)]) (g := gName 9) rfl scFirstMatching.nd rfl rfl (by rfl) (pi_range1 (by rfl) L.B.range (pa_cons (pe_callB call_len_seq (by rfl) L.B.len b_len (pa_cons (pv 0) pa_nil)) pa_nil)) (blkOk_by (N := ["table", "goal", "known", "images", "left", "taken", "image", "more", "found", "share"]) (sc := defScope sFirstMatching) (by decide +kernel))
          (fun _ _ _ _ _ => pg_name (i := 9) scFirstMatching.nd rfl (Or.inl rfl)) (fun _ _ _ _ _ => pts_one (pt_cmp (pc_dnotin hu (pv 9) (pv 3)))) (fun _ _ _ _ _ => pv 9))
        (pss_cons (ps_if (pt_cmpR (op_eqLI hr.units) (pv 4) (pe_lst pa_nil) (nomark _)) (pss_one (ps_ret (pe_callTy call_tuple_of (by rfl) L.B.tuple b_tuple (pa_cons (pe_lc (own := [("share", 9)]) (g := gName 9) (tt := tYes) rfl scFirstMatching.nd (pi_range1 (by rfl) L.B.range (pa_cons (pe_callB call_len_seq (by rfl) L.B.len b_len (pa_cons (pv 0) pa_nil)) pa_nil)) (blkOk_by (N := ["table", "goal", "known", "images", "left", "taken", "image", "more", "found", "share"]) (sc := defScope sFirstMatching) (by decide +kernel))
          (fun _ _ _ _ _ => pg_name (i := 9) scFirstMatching.nd rfl (Or.inl rfl)) (fun _ _ _ _ _ => pts_nil) (fun _ _ _ _ _ => pe_dget hu (pv 3) (pv 9) (fun _ _ => rfl))) pa_nil)))) pss_nil)
        (pss_cons (ps_set (i := 5) scFirstMatching.nd rfl (Or.inl rfl) (pe_callB cr_sortedX (by rfl) L.B.sorted b_sorted (pa_cons (pe_listVals rfl (by rfl) L.B.list (pv 3)) pa_nil)))
        (pss_cons (ps_for PassesOwn.never rfl (pi_range1 (by rfl) L.B.range (pa_cons (pe_callB call_len_seq (by rfl) L.B.len b_len (pa_cons (pv 1) pa_nil)) pa_nil)) (pg_name (i := 6) scFirstMatching.nd rfl (Or.inl rfl))
          (pss_one (ps_if (PW.pt (pw_and (pt_cmpR (op_notInLI (hu65 hr)) (pv 6) (pv 5) (by rfl)) (pw_and1 (pt_cmpR op_eq (pe_call (ok_orderOf L DS DO) (hr.mono (by omega)) (by rfl) DO.g DO.F.kp DO.b .nil pass0 (pa_cons (pv 1) (pa_cons (pv 6) pa_nil)))
              (pe_call (ok_orderOf L DS DO) (hr.mono (by omega)) (by rfl) DO.g DO.F.kp DO.b .nil pass0 (pa_cons (pv 0) (pa_cons (pe_ix ix_list (pv 4) pe_int (fun _ _ => rfl)) pa_nil))) (nomark _)))))
            (pss_cons (ps_set (i := 7) scFirstMatching.nd rfl (Or.inl rfl) (pe_callTy call_dictD (by rfl) L.B.dict b_dict (pa_cons (pv 3) pa_nil)))
            (pss_cons (ps_dput hu (pv 7) (pe_ix ix_list (pv 4) pe_int (fun _ _ => rfl)) (pv 6) (by rfl))
            (pss_cons (ps_set (i := 8) scFirstMatching.nd rfl (Or.inl rfl) (pe_call ih hr (by rfl) D.g D.F.kp D.b .nil pass0 (pa_cons (pv 0) (pa_cons (pv 1) (pa_cons (pv 7) pa_nil)))))
            (pss_one (ps_if (pt_cmp (pc_notN (pv 8))) (pss_one (ps_ret (pv 8))) pss_nil))))) pss_nil)))
        (pss_one (ps_ret pe_non))))))), ?_⟩
      obtain ⟨xa, ha1, ha2⟩ := ha.len
      refine ⟨.ref a, rfl, .ref b, rfl, .ref d, rfl, a, b, d, n, m, g, L0, rfl, ha, hb, hz, G.lt, G'.lt, hd, nd0, lt0, fun H1 s1 hnone => ?_, fun H1 p1 Lx s1 hp1 hI C => ?_⟩
      · exact ⟨.non, rfl, _, rfl, iteT (q1 H1 s1 hnone)⟩
      · have hln := C.len
        have hl0 := sub_len (nd_of_keys nd0) C.sub
        refine ⟨.ref p1, rfl, _, rfl, iteF ?_⟩
        refine ⟨.ref a, rfl, a, xa, rfl, .inr (sameT s1 ha1), (n : Nat), by rw [ha2], by omega, by omega, fun D1 hD1 => ?_⟩
        rw [Int.toNat_natCast]
        refine lc_it (walk_range0 (n := n)) (fun i H2 => Same H1 H2 ∧ H2 D1 = some (.lst (lN ((List.range i).filter fun x => decide (x ∉ Lx.map (·.1)))))) ⟨same_new hD1, upd_same⟩ (fun _ _ _ _ => trivial) (fun i y H3 H2 hi hP hY => ?_) (fun H2 hP => ?_)
        · obtain ⟨rfl, rfl⟩ := hY
          obtain ⟨s2, hD2⟩ := hP
          refine ⟨rfl, .int (i : Nat), rfl, .ref p1, rfl, p1, valV (dk Lx) (Sum.inl ((i : Nat) : Int)), rfl, .inl ⟨dk Lx, Sum.inl ((i : Nat) : Int), .inl (s2 _ _ hI), rfl, rfl⟩, _, rfl, ?_⟩
          by_cases hmem : i ∈ Lx.map (·.1)
          · obtain ⟨u, hu2⟩ := key_has hmem
            rw [dk_get C.nd hu2]
            refine iteF ⟨s2, ?_⟩
            rw [List.range_succ, List.filter_append]
            have : [i].filter (fun x => decide (x ∉ Lx.map (·.1))) = [] := by
              rw [List.filter_cons_of_neg (by simpa using hmem), List.filter_nil]
            rw [this, List.append_nil]
            exact hD2
          · rw [dk_none hmem]
            refine iteT ⟨.int (i : Nat), rfl, _, hD2, ?_, fun c o z => ?_, ?_⟩
            · rw [lN_len]
              have := List.length_filter_le (fun x => decide (x ∉ Lx.map (·.1))) (List.range i)
              rw [List.length_range] at this
              exact szl (by omega)
            · rw [upd_ne (ne_of_none z hD1)]
              exact s2 c o z
            · rw [upd_same, List.range_succ, List.filter_append]
              have : [i].filter (fun x => decide (x ∉ Lx.map (·.1))) = [i] := by
                rw [List.filter_cons_of_pos (by simpa using hmem), List.filter_nil]
              rw [this]
              unfold lN
              rw [List.map_append]
              rfl
        obtain ⟨s2, hD2⟩ := hP
        have hI2 := s2 _ _ hI
        have s12 := s1.trans s2
        refine ⟨.ref D1, rfl, by decide, fun D2 hD3 => ?_⟩
        have s3 := s12.trans (same_new (o := .lst []) hD3)
        refine ⟨D1, D2, ((List.range n).filter fun x => decide (x ∉ Lx.map (·.1))).map (fun x : Nat => (x : Int)), [], rfl, rfl, ?_, .inl (.inl upd_same), _, rfl, ?_⟩
        · rw [← lN_ints]
          exact .inl (.inl (same_new hD3 _ _ hD2))
        have hI3 := same_new (o := .lst []) hD3 _ _ hI2
        have hL3 := same_new (o := .lst []) hD3 _ _ hD2
        generalize upd H2 D2 (.lst []) = H3 at *
        clear hD3 hI2 hD2
        cases hleft : (List.range n).filter fun x => decide (x ∉ Lx.map (·.1)) with
        | nil =>
          refine ite2 (fun _ => ?_) (fun e => absurd (decide_eq_true rfl) e)
          have hall : ∀ i, i < n → ∃ u, (i, u) ∈ Lx := fun i hi => by
            refine key_has ?_
            have := List.filter_eq_nil_iff.mp hleft i (List.mem_range.mpr hi)
            simpa using this
          obtain ⟨F, hF⟩ : ∃ F : Nat → Nat, ∀ i, i < n → (i, F i) ∈ Lx := by
            refine ⟨fun i => if hi : i < n then (hall i hi).choose else 0, fun i hi => ?_⟩
            show (i, if hi : i < n then (hall i hi).choose else 0) ∈ Lx
            rw [dif_pos hi]
            exact (hall i hi).choose_spec
          refine ⟨.ref a, rfl, a, xa, rfl, .inr (sameT s3 ha1), (n : Nat), by rw [ha2], by omega, by omega, fun D3 hD3 => ?_⟩
          rw [Int.toNat_natCast]
          refine lc_it (walk_range0 (n := n)) (fun i H4 => Same H3 H4 ∧ H4 D3 = some (.lst ((tupF i F).map V.int))) ⟨same_new hD3, upd_same⟩ (fun _ _ _ _ => trivial) (fun i y H5 H4 hi hP hY => ?_) (fun H4 hP => ?_)
          · obtain ⟨rfl, rfl⟩ := hY
            obtain ⟨s4, hD4⟩ := hP
            refine ⟨rfl, tyes ⟨.ref p1, rfl, .int (i : Nat), rfl, p1, .int (F i : Nat), rfl, .inl ⟨dk Lx, Sum.inl ((i : Nat) : Int), .inl (s4 _ _ hI3), rfl, (dk_get C.nd (hF i hi)).symm⟩, _, hD4, ?_, fun c o z => ?_, ?_⟩⟩
            · rw [List.length_map, tupF_len]
              exact szl (by omega)
            · rw [upd_ne (ne_of_none z hD3)]
              exact s4 c o z
            · rw [upd_same]
              unfold tupF
              rw [List.range_succ, List.map_append, List.map_append]
              rfl
          · obtain ⟨s4, hD4⟩ := hP
            refine ⟨D3, _, rfl, .inl ⟨.inl (.inl hD4), fun l hl => q2 _ l F ((s3.trans s4).trans (same_new hl)) seqT_new (C.full hF G.lt)⟩⟩
        | cons x r =>
          refine ite2 (fun e => absurd (of_decide_eq_true e) (by simp)) (fun _ => ?_)
          obtain ⟨hx, hxk, hlow⟩ := filter_head hleft
          have hxk : x ∉ Lx.map (·.1) := of_decide_eq_true hxk
          have hlow : ∀ i, i < x → i ∈ Lx.map (·.1) := fun i hi => by
            have := of_decide_eq_false (hlow i hi)
            simpa using this
          rw [hleft] at hL3
          refine ⟨.ref p1, rfl, p1, dk Lx, rfl, hI3, fun t1 ht1 => ?_⟩
          rw [dk_vals]
          refine ⟨t1, (Lx.map (·.2)).map fun x : Nat => (x : Int), rfl, .inl (.inl (.inl upd_same)), by rw [List.length_map, List.length_map]; omega, fun tk t2 hperm hsort ht2 => ?_⟩
          have s5 := (same_new (o := .lst (((Lx.map (·.2)).map fun x : Nat => (x : Int)).map V.int)) ht1).trans (same_new (o := .lst (tk.map V.int)) ht2)
          have hT : upd (upd H3 t1 (.lst (((Lx.map (·.2)).map fun x : Nat => (x : Int)).map V.int))) t2 (.lst (tk.map V.int)) t2 = some (.lst (tk.map V.int)) := upd_same
          generalize upd (upd H3 t1 (.lst (((Lx.map (·.2)).map fun x : Nat => (x : Int)).map V.int))) t2 (.lst (tk.map V.int)) = H4 at *
          clear ht1 ht2
          have s4 := s3.trans s5
          have hI4 := s5 _ _ hI3
          have hL4 := s5 _ _ hL3
          have htk : ∀ i : Nat, ((i : Nat) : Int) ∈ tk ↔ i ∈ Lx.map (·.2) := fun i => by
            rw [hperm.mem_iff, List.mem_map]
            constructor
            · rintro ⟨y, hy, e⟩
              have : y = i := by omega
              rw [← this]
              exact hy
            · intro h
              exact ⟨i, h, rfl⟩
          obtain ⟨xb, hb1, hb2⟩ := hb.len
          refine ⟨.ref b, rfl, b, xb, rfl, .inr (sameT s4 hb1), (n : Nat), by rw [hb2], by omega, by omega, ?_⟩
          rw [Int.toNat_natCast]
          refine for_it (walk_range0 (n := n)) (fun i σ H5 => (∃ x6 x7 x8 x9, σ = [some (.ref a), some (.ref b), some (.ref d), some (.ref p1), some (.ref D1), some (.ref t2), x6, x7, x8, x9]) ∧ Same H4 H5 ∧ ∀ f, Iso n m g f → Ext L0 f → i ≤ f x) ⟨⟨_, _, _, _, rfl⟩, Same.refl _, fun _ _ _ => Nat.zero_le _⟩ (fun _ _ _ _ _ => trivial) (fun i y σ H6 H5 hi hP hY => ?_) (fun σ H5 hP => ?_)
          · obtain ⟨rfl, rfl⟩ := hY
            obtain ⟨⟨x6, x7, x8, x9, rfl⟩, s6, hno⟩ := hP
            have sx := s4.trans s6
            have next : (∀ f, Iso n m g f → Ext L0 f → f x ≠ i) → ∀ f, Iso n m g f → Ext L0 f → i + 1 ≤ f x := fun h f hf he => by
              have h1 := hno f hf he
              have h2 := h f hf he
              omega
            refine ⟨.int (i : Nat), rfl, .ref t2, rfl, (i : Nat), t2, tk, rfl, rfl, .inl (.inl (s6 _ _ hT)), _, rfl, ?_⟩
            by_cases ht : i ∈ Lx.map (·.2)
            · rw [decide_eq_true ((htk i).mpr ht)]
              refine iteF (iteF ?_)
              exact ⟨⟨_, _, _, _, rfl⟩, s6, next fun f hf he e => C.taken hx hxk hf he (by rw [e]; exact ht)⟩
            · rw [decide_eq_false (fun z => ht ((htk i).mp z))]
              refine iteT ?_
              have hL5 := s6 _ _ hL4
              refine ⟨.ref b, rfl, .int (i : Nat), rfl, b, n, i, g, rfl, hb.same sx, G', hi, .ref a, rfl, .ref D1, rfl, D1, lN (x :: r), 0, .int (x : Nat), rfl, rfl, .inl (.inl hL5), atI_nat (j := 0) rfl, a, n, x, m, rfl, ha.same sx, G, hx, rfl, _, rfl, ite2 (fun e => ?_) (fun e => ?_)⟩
              · refine ⟨.ref p1, rfl, p1, dk Lx, rfl, .inl (s6 _ _ hI4), fun p2 hp2 => ?_⟩
                have pD : D1 ≠ p2 := ne_of_none hL5 hp2
                refine ⟨.int (i : Nat), rfl, .ref p2, rfl, .ref D1, rfl, D1, lN (x :: r), 0, .int (x : Nat), rfl, rfl, .inl (.inl (by rw [upd_ne pD]; exact hL5)), atI_nat (j := 0) rfl, p2, _, rfl, .inl ⟨dk Lx, Sum.inl ((x : Nat) : Int), upd_same, rfl, by rw [dk_len]; exact szl (by omega), rfl⟩, ?_⟩
                rw [dk_put hxk]
                have s7 : Same H5 (upd (upd H5 p2 (.dK (dk Lx))) p2 (.dK (dk (Lx ++ [(x, i)])))) := fun c o z => by
                  rw [upd_ne (ne_of_none z hp2), upd_ne (ne_of_none z hp2)]
                  exact z
                have hK : upd (upd H5 p2 (.dK (dk Lx))) p2 (.dK (dk (Lx ++ [(x, i)]))) p2 = some (.dK (dk (Lx ++ [(x, i)]))) := upd_same
                generalize upd (upd H5 p2 (.dK (dk Lx))) p2 (.dK (dk (Lx ++ [(x, i)]))) = H7 at *
                refine ⟨.ref a, rfl, .ref b, rfl, .ref p2, rfl, a, b, p2, n, m, g, Lx ++ [(x, i)], rfl, ha.same (sx.trans s7), hb.same (sx.trans s7), G, G', hz, .inl hK, ?_, fun p hp => ?_, by rw [List.length_append, List.length_singleton]; omega, fun H8 s8 hn => ?_, fun H8 pf F s8 hF hleast => ?_⟩
                · rw [List.map_append, List.nodup_append]
                  refine ⟨C.nd, by simp, fun a ha b hb e => ?_⟩
                  have : b = x := by simpa using hb
                  rw [e, this] at ha
                  exact hxk ha
                · rcases List.mem_append.mp hp with z | z
                  · exact C.lt p z
                  · have : p = (x, i) := by simpa using z
                    rw [this]
                    exact ⟨hx, hi⟩
                · refine ⟨.non, rfl, _, rfl, iteF ?_⟩
                  refine ⟨⟨_, _, _, _, rfl⟩, (s6.trans s7).trans s8, next fun f hf he e => hn f hf (ext_snoc.mpr ⟨C.ext f hf he, e⟩)⟩
                · refine ⟨.ref pf, rfl, _, rfl, iteT ⟨.ref pf, rfl, ?_⟩⟩
                  exact q2 _ pf F ((sx.trans s7).trans s8) hF (C.step hx hlow hno hleast)
              · refine ⟨⟨_, _, _, _, rfl⟩, s6, next fun f hf he z => e ?_⟩
                have := hf.od G G' hx
                rw [z] at this
                rw [this]
                exact decide_eq_true rfl
          · obtain ⟨⟨x6, x7, x8, x9, rfl⟩, s6, hno⟩ := hP
            refine q1 _ (s4.trans s6) fun f hf he => ?_
            have h1 := hno f hf he
            have h2 := hf.lt x hx
            omega
end
end K38

set_option Elab.async false
set_option linter.all false
set_option maxRecDepth 100000
set_option maxHeartbeats 4000000
/-! D7: matching. -/
namespace K38
open PySem PySem.Spec PyProof.Rows L2
theorem scMatching : FnScope ["table", "goal"] ["table", "goal"] (defScope sMatching) := ⟨rfl, rfl, rfl, by decide +kernel, rfl, by decide +kernel, by decide +kernel⟩
/-- no matching -/
def NoIso (n : Nat) (m : Nat → Nat → Nat) (n2 : Nat) (g : Nat → Nat → Nat) : Prop := n2 = n → ∀ f, ¬ Iso n m g f
theorem sorted_ods {n n2 : Nat} {m g : Nat → Nat → Nat} (G : Grp n m) (G' : Grp n2 g) {as bs : List Int} (h1 : as.Perm (ods n m)) (h2 : bs.Perm (ods n2 g)) (s1 : as.Pairwise (· ≤ ·)) (s2 : bs.Pairwise (· ≤ ·)) (hne : as ≠ bs) : NoIso n m n2 g := fun e f hf => by
  subst e
  exact hne (sorted_uniq (h1.trans ((hf.ods G G').trans h2.symm)) s1 s2)
theorem sorted_len {n n2 : Nat} {m g : Nat → Nat → Nat} {as : List Int} (h1 : as.Perm (ods n m)) (h2 : as.Perm (ods n2 g)) : n2 = n := by
  have a := h1.length_eq
  have b := h2.length_eq
  rw [ods_len] at a b
  omega
section
variable {P : Program} {w : World} {K : PySem.W.Frag} {mg : Str → Option Value} {base : Heap} {fI fN fB : Addr} {fdI fdN fdB : FuncData}
def spMatching (K : PySem.W.Frag) (C : Addr) : Sp := fun vs H Q E => ∃ (a b : Addr) (n n2 : Nat) (m g : Nat → Nat → Nat), vs = [.ref a, .ref b] ∧ TabAt K H a n m ∧ TabAt K H b n2 g ∧ Grp n m ∧ Grp n2 g ∧ n ≤ 60 ∧ n2 ≤ 60 ∧
  ((24 < n ∨ 24 < n2) → ∀ d, H d = none → E (.ref C) (some d) (upd H d (.xd [(("word" : Str), .str "wide")]))) ∧
  (n ≤ 24 → n2 ≤ 24 → (∀ H', Same H H' → NoIso n m n2 g → Q .non H') ∧ ∀ H' p f, Same H H' → n2 = n → SqT K H' p ((tupF n f).map V.int) → Least n (Iso n m g) f → Q (.ref p) H')
theorem ok_matching {C fI0 fS fO fOs fC fF f : Addr} {fd fdS fdO fdOs fdC fdF : FuncData} {tk : Tok} (L : Low K mg fI fN fB fdI fdN fdB) (T : RefTxt P K mg C fI0) (hW : mg "WIDEST" = some (.int 24 tk))
    (DS : Df K mg "need_share" sNeedShare ["table", "value"] fS fdS) (DO : Df K mg "order_of" sOrderOf ["table", "one"] fO fdO) (DOs : Df K mg "orders" sOrders ["table"] fOs fdOs)
    (DC : Df K mg "carried" sCarried ["table", "goal", "known"] fC fdC) (DF : Df K mg "first_matching" sFirstMatching ["table", "goal", "known"] fF fdF)
    (D : Df K mg "matching" sMatching ["table", "goal"] f fd) : FnOk P w K mg base (L2.CX P w) 31 f fd ["table", "goal"] (spMatching K C) := by
  refine D.F.okX (k := 30) scMatching (fun vs H Q E h => ?_) (fun cdv A outer s H vs Q E hr h => ?_)
  · obtain ⟨a, b, n, n2, m, g, rfl, _⟩ := h
    rfl
  · obtain ⟨a, b, n, n2, m, g, rfl, ha, hb, G, G', hz, hz2, hwide, hq⟩ := h
    refine ⟨_, pss_cons (ps_if (pt_cmpR op_gt (pe_callB (call_max2 rfl) (by rfl) L.B.max b_max (pa_cons (pe_callB call_len_seq (by rfl) L.B.len b_len (pa_cons (pv 0) pa_nil)) (pa_cons (pe_callB call_len_seq (by rfl) L.B.len b_len (pa_cons (pv 1) pa_nil)) pa_nil))) (pe_glob (v := .int 24) (by rfl) hW ⟨_, rfl⟩) (nomark _))
          (pss_one (ps_raiseRef rfl T hr (takes_of rfl rfl rfl rfl) (pa_cons pe_str pa_nil))) pss_nil)
        (pss_cons (ps_if (pt_cmpR (op_neLI hr.units) (pe_callB cr_sortedX (by rfl) L.B.sorted b_sorted (pa_cons (pe_call (ok_orders L DS DO DOs) (hr.mono (by decide)) (by rfl) DOs.g DOs.F.kp DOs.b .nil pass0 (pa_cons (pv 0) pa_nil)) pa_nil))
          (pe_callB cr_sortedX (by rfl) L.B.sorted b_sorted (pa_cons (pe_call (ok_orders L DS DO DOs) (hr.mono (by decide)) (by rfl) DOs.g DOs.F.kp DOs.b .nil pass0 (pa_cons (pv 1) pa_nil)) pa_nil)) (nomark _)) (pss_one (ps_ret pe_non)) pss_nil)
        (pss_one (ps_ret (pe_call (ok_first L DS DO DC DF 24) hr (by rfl) DF.g DF.F.kp DF.b .nil pass0 (pa_cons (pv 0) (pa_cons (pv 1) (pa_cons (pe_disp (pps_cons pe_int pe_int pps_nil) (by rfl) rfl (by simp) (by decide)) pa_nil))))))), ?_⟩
    obtain ⟨xa, ha1, ha2⟩ := ha.len
    obtain ⟨xb, hb1, hb2⟩ := hb.len
    refine ⟨.ref a, rfl, a, xa, rfl, .inr ha1, .ref b, rfl, b, xb, rfl, .inr hb1, (n : Nat), (n2 : Nat), by rw [ha2, hb2], ?_⟩
    refine ⟨_, 24, rfl, rfl, _, rfl, ite2 (fun e => ?_) (fun e => ?_)⟩
    · have e := of_decide_eq_true e
      refine ⟨.str "wide", rfl, fun d hd => hwide ?_ d hd⟩
      split at e <;> omega
    · have e : ¬ (24 : Int) < if ((n2 : Nat) : Int) > ((n : Nat) : Int) then ((n2 : Nat) : Int) else ((n : Nat) : Int) := fun z => e (decide_eq_true z)
      have h24 : n ≤ 24 ∧ n2 ≤ 24 := by split at e <;> omega
      obtain ⟨q1, q2⟩ := hq h24.1 h24.2
      refine ⟨.ref a, rfl, a, n, m, rfl, ha, G, by omega, fun p1 H1 s1 hp1 hl1 => ⟨p1, ods n m, rfl, .inl (.inl (.inl hl1)), by rw [ods_len]; omega, fun ms t1 hperm1 hs1 ht1 => ?_⟩⟩
      have s2 := s1.trans (same_new (o := .lst (ms.map V.int)) ht1)
      have hT1 : upd H1 t1 (.lst (ms.map V.int)) t1 = some (.lst (ms.map V.int)) := upd_same
      generalize upd H1 t1 (.lst (ms.map V.int)) = H2 at *
      refine ⟨.ref b, rfl, b, n2, g, rfl, hb.same s2, G', by omega, fun p3 H3 s3 hp3 hl3 => ⟨p3, ods n2 g, rfl, .inl (.inl (.inl hl3)), by rw [ods_len]; omega, fun ks t2 hperm2 hs2 ht2 => ?_⟩⟩
      have s4 := s3.trans (same_new (o := .lst (ks.map V.int)) ht2)
      have hT2 : upd H3 t2 (.lst (ks.map V.int)) t2 = some (.lst (ks.map V.int)) := upd_same
      generalize upd H3 t2 (.lst (ks.map V.int)) = H4 at *
      refine ⟨t1, t2, ms, ks, rfl, rfl, .inl (.inl (s4 _ _ hT1)), .inl (.inl hT2), _, rfl, ?_⟩
      have sx := s2.trans s4
      by_cases hne : ms = ks
      · rw [decide_eq_true hne]
        refine iteF ?_
        subst hne
        have en : n2 = n := sorted_len hperm1 hperm2
        subst en
        refine ⟨.ref a, rfl, .ref b, rfl, fun dd hdd => ⟨upd_same, [(Sum.inl 0, .int 0)], rfl, by decide, ?_⟩⟩
        have s5 : Same H4 (upd (upd H4 dd (.dK [])) dd (.dK (mergeK [] [(Sum.inl 0, V.int 0)]))) := fun c o z => by
          rw [upd_ne (ne_of_none z hdd), upd_ne (ne_of_none z hdd)]
          exact z
        have hK : upd (upd H4 dd (.dK [])) dd (.dK (mergeK [] [(Sum.inl 0, V.int 0)])) dd = some (.dK (dk [(0, 0)])) := upd_same
        generalize upd (upd H4 dd (.dK [])) dd (.dK (mergeK [] [(Sum.inl 0, V.int 0)])) = H5 at *
        have ext0 : ∀ f, Iso n2 m g f → Ext [(0, 0)] f := fun f hf p hp => by
          have : p = (0, 0) := by simpa using hp
          rw [this]
          exact hf.zero G G'
        refine ⟨a, b, dd, n2, m, g, [(0, 0)], rfl, ha.same (sx.trans s5), hb.same (sx.trans s5), G, G', by omega, .inl hK, by simp, fun p hp => ?_, by show n2 < 1 + 24; omega, fun H6 s6 hn => ?_, fun H6 p f s6 hp hl => ?_⟩
        · have : p = (0, 0) := by simpa using hp
          rw [this]
          exact ⟨G.pos, G.pos⟩
        · exact q1 _ ((sx.trans s5).trans s6) fun _ f hf => hn f hf (ext0 f hf)
        · exact q2 _ p f ((sx.trans s5).trans s6) rfl hp ⟨hl.is.1, fun f' hf' => hl.le f' ⟨hf', ext0 f' hf'⟩⟩
      · rw [decide_eq_false hne]
        exact iteT (q1 _ sx (sorted_ods G G' hperm1 hperm2 hs1 hs2 hne))
end
end K38

set_option Elab.async false
set_option linter.all false
set_option maxRecDepth 100000
set_option maxHeartbeats 4000000
/-! E1: the law's heap of numbers and what is drawn from it. -/
namespace K38
open PySem PySem.Spec PyProof.Rows L2
theorem scHeap : FnScope ["_law_script", "_law_base", "_law_cell", "_law_given", "_law_stir"] ["_law_script", "_law_base"] (defScope sHeap) := ⟨rfl, rfl, rfl, by decide +kernel, rfl, by decide +kernel, by decide +kernel⟩
theorem scDraw : FnScope ["_law_heap_here", "_law_many", "_law_rest"] ["_law_heap_here", "_law_many"] (defScope sDraw) := ⟨rfl, rfl, rfl, by decide +kernel, rfl, by decide +kernel, by decide +kernel⟩
theorem scPick : FnScope ["_law_heap_here", "_law_some"] ["_law_heap_here", "_law_some"] (defScope sPick) := ⟨rfl, rfl, rfl, by decide +kernel, rfl, by decide +kernel, by decide +kernel⟩
theorem scOrder : FnScope ["_law_heap_here", "_law_many", "_law_order_here", "_law_one"] ["_law_heap_here", "_law_many"] (defScope sOrder) := ⟨rfl, rfl, rfl, by decide +kernel, rfl, by decide +kernel, by decide +kernel⟩
/-- the heap of numbers: a list at l and a stirred number, both in the list at h -/
structure HpX (H : Hp) (h l : Addr) (is : List Int) (s : Int) : Prop where
  at_h : H h = some (.lst [.ref l, .int s])
  at_l : H l = some (.lst (is.map V.int))
  lo : 0 ≤ s
  hi : s < 2147483647
  len : is.length ≤ 1000
def HpAt (H : Hp) (h l : Addr) : Prop := ∃ is s, HpX H h l is s
/-- what was, but at h and l -/
def But (h l : Addr) (H H' : Hp) : Prop := ∀ c o, H c = some o → c ≠ h → c ≠ l → H' c = some o
section
variable {h l : Addr} {H H1 H2 : Hp}
theorem But.refl : But h l H H := fun c o z _ _ => z
theorem But.trans (a : But h l H H1) (b : But h l H1 H2) : But h l H H2 := fun c o z h1 h2 => b c o (a c o z h1 h2) h1 h2
theorem But.of_same (a : Same H H1) : But h l H H1 := fun c o z _ _ => a c o z
theorem HpX.ne {is : List Int} {s : Int} (x : HpX H h l is s) : h ≠ l := fun e => by
  have := x.at_h
  rw [e, x.at_l] at this
  have := HO.lst.inj (Option.some.inj this)
  cases is with
  | nil => cases this
  | cons a r => cases this
theorem HpX.same {is : List Int} {s : Int} (x : HpX H h l is s) (e : Same H H1) : HpX H1 h l is s := ⟨e _ _ x.at_h, e _ _ x.at_l, x.lo, x.hi, x.len⟩
theorem HpAt.same (x : HpAt H h l) (e : Same H H1) : HpAt H1 h l := by
  obtain ⟨is, s, x⟩ := x
  exact ⟨is, s, x.same e⟩
theorem sqT_but {K : PySem.W.Frag} {r : Addr} {xs : List V} (q : SqT K H r xs) (x : HpAt H h l) (e : But h l H H1) : SqT K H1 r xs := by
  obtain ⟨is, s, x⟩ := x
  have a := x.at_h
  have b := x.at_l
  rcases q with (q | ⟨o, q⟩) | q
  · exact .inl (.inl (e _ _ q (fun z => by rw [z, a] at q; cases q) (fun z => by rw [z, b] at q; cases q)))
  · exact .inl (.inr ⟨o, e _ _ q (fun z => by rw [z, a] at q; cases q) (fun z => by rw [z, b] at q; cases q)⟩)
  · exact .inr q
theorem zt_but {r : Addr} {xs : List V} (q : ZT H r xs) (x : HpAt H h l) (e : But h l H H1) : ZT H1 r xs := by
  obtain ⟨is, s, x⟩ := x
  obtain ⟨o, q, d⟩ := q
  have a := x.at_h
  have b := x.at_l
  exact ⟨o, e _ _ q (fun z => by rw [z, a] at q; cases q) (fun z => by rw [z, b] at q; cases q), d⟩
theorem tabZ_but {K : PySem.W.Frag} {a : Addr} {n : Nat} {m : Nat → Nat → Nat} (q : TabZ K H a n m) (x : HpAt H h l) (e : But h l H H1) : TabZ K H1 a n m := by
  obtain ⟨rs, h1, h2, h3⟩ := q
  exact ⟨rs, h1, sqT_but h2 x e, fun i r z => zt_but (h3 i r z) x e⟩
end
theorem snoc_of {α : Type} (xs : List α) : xs = [] ∨ ∃ ys y, xs = ys ++ [y] := by
  rcases List.eq_nil_or_concat xs with h | ⟨ys, y, h⟩
  · exact .inl h
  · exact .inr ⟨ys, y, by rw [h, List.concat_eq_append]⟩
theorem cut_ints (ns : List Int) (lo hi : Option Int) : ∃ cs : List Int, cutV (ns.map V.int) lo hi = cs.map V.int ∧ cs.length ≤ ns.length := by
  refine ⟨(ns.drop (HT.sIx ns.length 0 lo)).take (HT.sIx ns.length ns.length hi - HT.sIx ns.length 0 lo), ?_, by rw [List.length_take, List.length_drop]; omega⟩
  unfold cutV
  rw [List.map_take, List.map_drop, List.length_map]
theorem hp0 {K : PySem.W.Frag} {H : Hp} {h l : Addr} {is : List Int} {s : Int} {σ : L2.St} {Q : VK} (x : HpX H h l is s) (e : σ[0]? = some (some (.ref h))) (q : Q (.ref l) H) : tOp (rIxL K) (tVar 0) (tC (.int 0)) σ H Q :=
  ⟨.ref h, e, h, _, 0, .ref l, rfl, rfl, .inl (.inl x.at_h), atI_nat (j := 0) rfl, q⟩
theorem hp1 {K : PySem.W.Frag} {H : Hp} {h l : Addr} {is : List Int} {s : Int} {σ : L2.St} {Q : VK} (x : HpX H h l is s) (e : σ[0]? = some (some (.ref h))) (q : Q (.int s) H) : tOp (rIxL K) (tVar 0) (tC (.int 1)) σ H Q :=
  ⟨.ref h, e, h, _, 1, .int s, rfl, rfl, .inl (.inl x.at_h), atI_nat (j := 1) rfl, q⟩
theorem HpX.put {H : Hp} {h l : Addr} {is js : List Int} {s : Int} (x : HpX H h l is s) (hz : js.length ≤ 1000) : HpX (upd H l (.lst (js.map V.int))) h l js s :=
  ⟨by rw [upd_ne x.ne]; exact x.at_h, upd_same, x.lo, x.hi, hz⟩
theorem But.putL {H : Hp} {h l : Addr} {o : HO} : But h l H (upd H l o) := fun c u z _ h2 => by rw [upd_ne h2]; exact z
theorem But.putH {H : Hp} {h l : Addr} {o : HO} : But h l H (upd H h o) := fun c u z h1 _ => by rw [upd_ne h1]; exact z
section
variable {P : Program} {w : World} {K : PySem.W.Frag} {mg : Str → Option Value} {base : Heap}
def spHeap (K : PySem.W.Frag) : Sp := fun vs H Q _ => ∃ (a : Addr) (ns : List Int), vs = [.ref a, .int 0] ∧ SqL K H a (ns.map V.int) ∧ ns.length ≤ 1000 ∧ ∀ h l H', Same H H' → H h = none → H l = none → HpAt H' h l → Q (.ref h) H'
theorem ok_heap {f : Addr} {fd : FuncData} (B : Bn mg) (D : Df K mg "_law_heap" sHeap ["_law_script", "_law_base"] f fd) : FnOk P w K mg base CX0 1 f fd ["_law_script", "_law_base"] (spHeap K) := by
  refine D.F.ok scHeap (fun vs H Q E h => ?_) (fun cdv A outer s H vs Q E hr h => ?_)
  · obtain ⟨a, ns, rfl, _⟩ := h
    rfl
  · obtain ⟨a, ns, rfl, hS, hz, q⟩ := h
    refine ⟨_, pss_cons (ps_setLc (i := 3) (own := [("_law_cell", 2)]) (g := gName 2) (tt := tYes) rfl scHeap.nd rfl rfl (by rfl) (pi_list (pe_slice sl_list (pv 0) (po_some (pv 1)) (po_some pe_int))) (blkOk_by (N := ["_law_script", "_law_base", "_law_cell", "_law_given", "_law_stir"]) (sc := defScope sHeap) (by decide +kernel))
        (fun _ _ _ _ _ => pg_name (i := 2) scHeap.nd rfl (Or.inl rfl)) (fun _ _ _ _ _ => pts_nil) (fun _ _ _ _ _ => pe_callB call_abs (by rfl) B.abs b_abs (pa_cons (pv 2) pa_nil)))
      (pss_cons (ps_set (i := 4) scHeap.nd rfl (Or.inl rfl) (pe_op op_add pe_int (pe_op op_mul pe_int (pv 1))))
      (pss_cons (ps_for PassesOwn.never rfl (pi_list (pv 3)) (pg_name (i := 2) scHeap.nd rfl (Or.inl rfl))
        (pss_one (ps_set (i := 4) scHeap.nd rfl (Or.inl rfl) (pe_op op_mod (pe_callTy call_int1 (by rfl) B.int b_int (pa_cons (pe_op op_add (pe_op op_add (pe_op op_mul (pv 4) pe_int) (pe_op op_mod (pe_callTy call_int1 (by rfl) B.int b_int (pa_cons (pv 2) pa_nil)) pe_int)) pe_int) pa_nil)) pe_int))))
      (pss_one (ps_ret (pe_lst (pa_cons (pe_revL (pe_lc (own := [("_law_cell", 2)]) (g := gName 2) rfl scHeap.nd (pi_list (pv 3)) (blkOk_by (N := ["_law_script", "_law_base", "_law_cell", "_law_given", "_law_stir"]) (sc := defScope sHeap) (by decide +kernel))
        (fun _ _ _ _ _ => pg_name (i := 2) scHeap.nd rfl (Or.inl rfl)) (fun _ _ _ _ _ => pts_one (pt_cmpR op_ge (pv 2) (pe_op op_pow pe_int pe_int) (nomark _))) (fun _ _ _ _ _ => pv 2))) (pa_cons (pv 4) pa_nil))))))), ?_⟩
    refine ⟨.ref a, rfl, .int 0, rfl, 0, rfl, 48, rfl, a, _, rfl, hS, fun p hp => ⟨p, rfl, ⟨_, .inl (.inl upd_same)⟩, fun D hD => ?_⟩⟩
    obtain ⟨cs, ec, hcl⟩ := cut_ints ns (some 0) (some 48)
    rw [ec] at hD ⊢
    refine lc_it (walk_list (xs := cs.map V.int)) (fun i H1 => Same H H1 ∧ H1 p = some (.lst (cs.map V.int)) ∧ ∃ gs : List Int, gs.length = i ∧ H1 D = some (.lst (gs.map V.int))) ⟨(same_new hp).trans (same_new hD), by rw [upd_ne (ne_of_none upd_same hD), upd_same], [], rfl, upd_same⟩ (fun i H1 _ h => .inl (.inl h.2.1)) (fun i y H2 H1 hi hP hY => ?_) (fun H1 hP => ?_)
    · obtain ⟨rfl, hy⟩ := hY
      obtain ⟨s1, hp1, gs, hg, hD1⟩ := hP
      rw [List.length_map] at hi
      rw [List.getElem?_map, List.getElem?_eq_getElem hi] at hy
      obtain rfl := Option.some.inj hy
      refine ⟨rfl, tyes ⟨.int cs[i], rfl, cs[i], rfl, _, hD1, by rw [List.length_map]; exact szl (by omega), fun c o z => ?_, ?_, gs ++ [if cs[i] < 0 then -cs[i] else cs[i]], by rw [List.length_append, hg]; rfl, by rw [upd_same, List.map_append]; rfl⟩⟩
      · rw [upd_ne (ne_of_none z ((same_new hp).free hD))]
        exact s1 c o z
      · rw [upd_ne (ne_of_none upd_same hD)]
        exact hp1
    · obtain ⟨s1, hp1, gs, hg, hD1⟩ := hP
      rw [List.length_map] at hg
      refine ⟨.int 0, rfl, 37, 0, rfl, rfl, .inl ⟨by decide, by decide⟩, 6971, _, rfl, rfl, ?_⟩
      refine ⟨.ref D, rfl, D, rfl, ⟨_, .inl (.inl hD1)⟩, ?_⟩
      refine for_it (walk_list (xs := gs.map V.int)) (fun i σ H2 => H2 = H1 ∧ ∃ x2 s, σ = [some (.ref a), some (.int 0), x2, some (.ref D), some (.int s)] ∧ 0 ≤ s ∧ s < 2147483647) ⟨rfl, _, _, rfl, by decide, by decide⟩ (fun i σ H2 _ h => by rw [h.1]; exact .inl (.inl hD1)) (fun i y σ H3 H2 hi hP hY => ?_) (fun σ H2 hP => ?_)
      · obtain ⟨rfl, hy⟩ := hY
        obtain ⟨rfl, x2, s, rfl, hs0, hs1⟩ := hP
        rw [List.length_map] at hi
        rw [List.getElem?_map, List.getElem?_eq_getElem hi] at hy
        obtain rfl := Option.some.inj hy
        refine ⟨.int s, rfl, s, 48271, rfl, rfl, .inl ⟨by omega, by omega⟩, .int gs[i], rfl, .inl ⟨gs[i], rfl, gs[i], 2147483549, rfl, rfl, (by decide : (0 : Int) < 2147483549), _, _, rfl, rfl, _, 19, rfl, rfl, .inl ⟨_, rfl, _, 2147483647, rfl, rfl, (by decide : (0 : Int) < 2147483647), rfl, _, _, rfl, Int.emod_nonneg _ (by decide), Int.emod_lt_of_pos _ (by decide)⟩⟩⟩
      · obtain ⟨rfl, x2, s, rfl, hs0, hs1⟩ := hP
        refine ⟨.ref D, rfl, D, rfl, ⟨_, .inl (.inl hD1)⟩, fun D2 hD2 => ?_⟩
        refine lc_it (walk_list (xs := gs.map V.int)) (fun i H3 => Same H2 H3 ∧ ∃ fs : List Int, fs.length ≤ i ∧ H3 D2 = some (.lst (fs.map V.int))) ⟨same_new hD2, [], Nat.le_refl _, upd_same⟩ (fun i H3 _ h => .inl (.inl (h.1 _ _ hD1))) (fun i y H4 H3 hi hP hY => ?_) (fun H3 hP => ?_)
        · obtain ⟨rfl, hy⟩ := hY
          obtain ⟨s3, fs, hf, hD3⟩ := hP
          rw [List.length_map] at hi
          rw [List.getElem?_map, List.getElem?_eq_getElem hi] at hy
          obtain rfl := Option.some.inj hy
          refine ⟨rfl, .int gs[i], rfl, 10, 18, rfl, rfl, ⟨by decide, by decide, by decide⟩, gs[i], _, rfl, rfl, _, rfl, ite2 (fun _ => ?_) (fun _ => ⟨s3, fs, by omega, hD3⟩)⟩
          refine ⟨.int gs[i], rfl, _, hD3, by rw [List.length_map]; exact szl (by omega), fun c o z => ?_, fs ++ [gs[i]], by rw [List.length_append, List.length_singleton]; omega, by rw [upd_same, List.map_append]; rfl⟩
          rw [upd_ne (ne_of_none z hD2)]
          exact s3 c o z
        · obtain ⟨s3, fs, hf, hD3⟩ := hP
          rw [List.length_map] at hf
          refine ⟨D2, _, rfl, .inl (.inl hD3), fun l hl => ⟨.int s, rfl, by show 2 ≤ sizeLine; decide, fun h hh => ?_⟩⟩
          have sx := s1.trans s3
          have hlh : l ≠ h := ne_of_none upd_same hh
          have hl0 : H l = none := sx.free hl
          have hh0 : H h = none := (sx.trans (same_new hl)).free hh
          refine q h l _ (sx.trans ((same_new hl).trans (same_new hh))) hh0 hl0 ⟨fs.reverse, s, upd_same, ?_, hs0, hs1, by rw [List.length_reverse]; omega⟩
          rw [upd_ne hlh, upd_same, List.map_reverse]
def spDraw : Sp := fun vs H Q _ => ∃ (h l : Addr) (many : Nat), vs = [.ref h, .int (many : Nat)] ∧ 0 < many ∧ many ≤ 1000 ∧ HpAt H h l ∧ ∀ (r : Nat) H', r < many → HpAt H' h l → But h l H H' → Q (.int (r : Nat)) H'
theorem ok_draw {f : Addr} {fd : FuncData} (B : Bn mg) (D : Df K mg "_law_draw" sDraw ["_law_heap_here", "_law_many"] f fd) : FnOk P w K mg base CX0 1 f fd ["_law_heap_here", "_law_many"] spDraw := by
  refine D.F.ok scDraw (fun vs H Q E h => ?_) (fun cdv A outer s H vs Q E hr h => ?_)
  · obtain ⟨a, b, many, rfl, _⟩ := h
    rfl
  · obtain ⟨h, l, many, rfl, hm, hm2, hx, q⟩ := h
    refine ⟨_, pss_cons (ps_while PassesOwn.never (PW.pt (pw_and (pt_cmpR (op_neLI hr.units) (pe_ix ix_list (pv 0) pe_int (fun _ _ => rfl)) (pe_lst pa_nil) (nomark _)) (pw_and1 (pt_cmpR op_eq (pe_ix ix_list (pe_ix ix_list (pv 0) pe_int (fun _ _ => rfl)) (pe_un un_neg pe_int) (fun _ _ => rfl)) pe_int (nomark _)))))
        (pss_one (ps_expr (pe_bm0 PySem.F.plainAttrs_list PySem.F.slot_list_pop PySem.F.type_list_pop mt_pop (pe_ix ix_list (pv 0) pe_int (fun _ _ => rfl))))))
      (pss_cons (ps_if (pt_cmpR (op_neLI hr.units) (pe_ix ix_list (pv 0) pe_int (fun _ _ => rfl)) (pe_lst pa_nil) (nomark _))
        (pss_cons (ps_set (i := 2) scDraw.nd rfl (Or.inl rfl) (pe_bm0 PySem.F.plainAttrs_list PySem.F.slot_list_pop PySem.F.type_list_pop mt_pop (pe_ix ix_list (pv 0) pe_int (fun _ _ => rfl))))
        (pss_cons (ps_expr (pe_bm PySem.F.plainAttrs_list PySem.F.slot_list_append PySem.F.type_list_append mt_append (pe_ix ix_list (pv 0) pe_int (fun _ _ => rfl)) (pa_cons (pe_op op_fdiv (pv 2) (pv 1)) pa_nil)))
        (pss_one (ps_ret (pe_op op_mod (pe_callTy call_int1 (by rfl) B.int b_int (pa_cons (pv 2) pa_nil)) (pv 1)))))) pss_nil)
      (pss_cons (ps_asg (pe_op op_mod (pe_callTy call_int1 (by rfl) B.int b_int (pa_cons (pe_op op_add (pe_op op_mul (pe_ix ix_list (pv 0) pe_int (fun _ _ => rfl)) pe_int) pe_int) pa_nil)) pe_int) (pg_sub (pv 0) pe_int set_list))
      (pss_one (ps_ret (pe_op op_mod (pe_callTy call_int1 (by rfl) B.int b_int (pa_cons (pe_op op_fdiv (pe_ix ix_list (pv 0) pe_int (fun _ _ => rfl)) pe_int) pa_nil)) (pv 1)))))), ?_⟩
    obtain ⟨is0, s0, hx⟩ := hx
    refine ⟨fun k σ H1 => ∃ is s x2, k = is.length ∧ σ = [some (.ref h), some (.int (many : Nat)), x2] ∧ HpX H1 h l is s ∧ But h l H H1, ⟨_, is0, s0, _, rfl, rfl, hx, But.refl⟩, fun k σ H1 hW => ?_⟩
    obtain ⟨is, s, x2, rfl, rfl, x, hB⟩ := hW
    refine hp0 x rfl ⟨by decide, fun e he => ⟨l, e, is, [], rfl, rfl, .inl (.inl (same_new he _ _ x.at_l)), .inl (.inl upd_same), _, rfl, ?_⟩⟩
    have x' := x.same (same_new (o := .lst []) he)
    have hB' := hB.trans (.of_same (same_new (o := .lst []) he))
    generalize upd H1 e (.lst []) = H2 at *
    clear he x hB
    rcases snoc_of is with rfl | ⟨is, y, rfl⟩
    · rw [decide_eq_true rfl]
      refine iteF (iteF ?_)
      refine hp0 x' rfl ⟨by decide, fun e he => ⟨l, e, [], [], rfl, rfl, .inl (.inl (same_new he _ _ x'.at_l)), .inl (.inl upd_same), _, rfl, ?_⟩⟩
      have x3 := x'.same (same_new (o := .lst []) he)
      have hB3 := hB'.trans (.of_same (same_new (o := .lst []) he))
      generalize upd H2 e (.lst []) = H3 at *
      rw [decide_eq_true rfl]
      refine iteF ?_
      refine hp1 x3 rfl ⟨s, 48271, rfl, rfl, .inl ⟨by have := x3.lo; omega, by have := x3.hi; omega⟩, _, 13, rfl, rfl, .inl ⟨_, rfl, _, 2147483647, rfl, rfl, (by decide : (0 : Int) < 2147483647), ?_⟩⟩
      refine ⟨.ref h, rfl, h, _, 1, 1, rfl, rfl, x3.at_h, rfl, ?_⟩
      have x4 : HpX (upd H3 h (.lst ([V.ref l, V.int s].set 1 (.int ((s * 48271 + 13) % 2147483647))))) h l [] ((s * 48271 + 13) % 2147483647) :=
        ⟨upd_same, by rw [upd_ne x3.ne.symm]; exact x3.at_l, Int.emod_nonneg _ (by decide), Int.emod_lt_of_pos _ (by decide), by decide⟩
      have hB4 := hB3.trans (But.putH (o := .lst ([V.ref l, V.int s].set 1 (.int ((s * 48271 + 13) % 2147483647)))))
      generalize upd H3 h (.lst ([V.ref l, V.int s].set 1 (.int ((s * 48271 + 13) % 2147483647)))) = H4 at *
      generalize (s * 48271 + 13) % 2147483647 = s4 at *
      refine hp1 x4 rfl ⟨s4, 64, rfl, rfl, ⟨by decide, by decide⟩, .inl ⟨_, rfl, .int (many : Nat), rfl, _, (many : Nat), rfl, rfl, by omega, ?_⟩⟩
      have b1 := Int.emod_nonneg (s4 / 64) (b := ((many : Nat) : Int)) (by omega)
      have b2 := Int.emod_lt_of_pos (s4 / 64) (b := ((many : Nat) : Int)) (by omega)
      have z := q ((s4 / 64) % ((many : Nat) : Int)).toNat H4 (by omega) ⟨_, _, x4⟩ hB4
      rw [Int.toNat_of_nonneg b1] at z
      exact z
    · have hne : is ++ [y] ≠ [] := by simp
      rw [decide_eq_false hne]
      have hlast : (is ++ [y]).map V.int = is.map V.int ++ [V.int y] := by rw [List.map_append]; rfl
      have hl1 := x'.len
      rw [List.length_append, List.length_singleton] at hl1
      have hpop : ∀ {H2 : Hp}, HpX H2 h l (is ++ [y]) s → (∀ Q : VK, Q (.int y) (upd H2 l (.lst (is.map V.int))) → rPop (.ref l) [] H2 Q) := fun {H2} x Q q => by
        refine ⟨l, _, .int y, rfl, rfl, x.at_l, ?_, ?_⟩
        · rw [hlast, List.length_append, List.length_singleton, Nat.add_sub_cancel, List.getElem?_append_right (Nat.le_refl _), Nat.sub_self]
          rfl
        · rw [hlast, List.dropLast_concat]
          exact q
      refine iteT (hp0 x' rfl ⟨1, rfl, l, _, -1, .int y, rfl, rfl, .inl (.inl x'.at_l), by rw [hlast]; exact atI_last _ _, rfl, _, rfl, ite2 (fun e => ?_) (fun e => ?_)⟩)
      · refine ⟨fun σ' H' => ∃ x2, σ' = [some (.ref h), some (.int (many : Nat)), x2] ∧ HpX H' h l is s ∧ But h l H H', fun σ' H' hN => ?_, ?_⟩
        · obtain ⟨x2, rfl, x3, hB3⟩ := hN
          exact ⟨is.length, by rw [List.length_append, List.length_singleton]; omega, is, s, x2, rfl, rfl, x3, hB3⟩
        · refine hp0 x' rfl ⟨.inl ⟨rfl, _, .inl (.inl x'.at_l)⟩, hpop x' _ ⟨_, rfl, x'.put (by omega), hB'.trans But.putL⟩⟩
      · refine hp0 x' rfl ⟨by decide, fun e2 he => ⟨l, e2, is ++ [y], [], rfl, rfl, .inl (.inl (same_new he _ _ x'.at_l)), .inl (.inl upd_same), _, rfl, ?_⟩⟩
        have x3 := x'.same (same_new (o := .lst []) he)
        have hB3 := hB'.trans (.of_same (same_new (o := .lst []) he))
        generalize upd H2 e2 (.lst []) = H3 at *
        rw [decide_eq_false hne]
        refine iteT (hp0 x3 rfl ⟨.inl ⟨rfl, _, .inl (.inl x3.at_l)⟩, hpop x3 _ ?_⟩)
        have x4 := x3.put (js := is) (by omega)
        have hB4 := hB3.trans (But.putL (o := .lst (is.map V.int)))
        generalize upd H3 l (.lst (is.map V.int)) = H4 at *
        refine hp0 x4 rfl ⟨.inl ⟨rfl, _, .inl (.inl x4.at_l)⟩, .int y, rfl, .int (many : Nat), rfl, y, (many : Nat), rfl, rfl, ⟨by omega, by omega⟩, l, is.map V.int, _, rfl, rfl, x4.at_l, by rw [List.length_map]; exact szl (by omega), ?_⟩
        have x5 := x4.put (js := is ++ [y / ((many : Nat) : Int)]) (by rw [List.length_append, List.length_singleton]; omega)
        have hB5 := hB4.trans (But.putL (o := .lst ((is ++ [y / ((many : Nat) : Int)]).map V.int)))
        have e5 : is.map V.int ++ [V.int (y / ((many : Nat) : Int))] = (is ++ [y / ((many : Nat) : Int)]).map V.int := by rw [List.map_append]; rfl
        rw [e5]
        generalize upd H4 l (.lst ((is ++ [y / ((many : Nat) : Int)]).map V.int)) = H5 at *
        refine ⟨.int y, rfl, .inl ⟨y, rfl, .int (many : Nat), rfl, y, (many : Nat), rfl, rfl, by omega, ?_⟩⟩
        have b1 := Int.emod_nonneg y (b := ((many : Nat) : Int)) (by omega)
        have b2 := Int.emod_lt_of_pos y (b := ((many : Nat) : Int)) (by omega)
        have z := q (y % ((many : Nat) : Int)).toNat H5 (by omega) ⟨_, _, x5⟩ hB5
        rw [Int.toNat_of_nonneg b1] at z
        exact z
end
end K38

set_option Elab.async false
set_option linter.all false
set_option maxRecDepth 100000
set_option maxHeartbeats 4000000
/-! E2: _law_pick, _law_order. -/
namespace K38
open PySem PySem.Spec PyProof.Rows L2
theorem sqL_but {K : PySem.W.Frag} {h l r : Addr} {H H1 : Hp} {xs : List V} (q : SqL K H r xs) (h1 : r ≠ h) (h2 : r ≠ l) (e : But h l H H1) : SqL K H1 r xs := by
  rcases q with (q | ⟨o, q⟩) | q
  · exact .inl (.inl (e _ _ q h1 h2))
  · exact .inl (.inr ⟨o, e _ _ q h1 h2⟩)
  · exact .inr q
theorem ins_perm {os : List Nat} {i r : Nat} (h : os.Perm (List.range i)) : (os.take r ++ [i] ++ os.drop r).Perm (List.range (i + 1)) := by
  rw [List.range_succ, List.append_assoc]
  refine List.perm_middle.trans ?_
  show (i :: (os.take r ++ os.drop r)).Perm _
  rw [List.take_append_drop]
  exact (List.Perm.cons i h).trans (List.perm_append_singleton i (List.range i)).symm
section
variable {P : Program} {w : World} {K : PySem.W.Frag} {mg : Str → Option Value} {base : Heap}
def spPick (K : PySem.W.Frag) : Sp := fun vs H Q _ => ∃ (h l p : Addr) (xs : List V), vs = [.ref h, .ref p] ∧ SqL K H p xs ∧ p ≠ h ∧ p ≠ l ∧ 0 < xs.length ∧ xs.length ≤ 1000 ∧ HpAt H h l ∧ ∀ v H', v ∈ xs → HpAt H' h l → But h l H H' → Q v H'
theorem ok_pick {fD f : Addr} {fd fdD : FuncData} (B : Bn mg) (DD : Df K mg "_law_draw" sDraw ["_law_heap_here", "_law_many"] fD fdD) (D : Df K mg "_law_pick" sPick ["_law_heap_here", "_law_some"] f fd) : FnOk P w K mg base CX0 2 f fd ["_law_heap_here", "_law_some"] (spPick K) := by
  refine D.F.ok scPick (fun vs H Q E h => ?_) (fun cdv A outer s H vs Q E hr h => ?_)
  · obtain ⟨h, l, p, xs, rfl, _⟩ := h
    rfl
  · obtain ⟨h, l, p, xs, rfl, hS, n1, n2, h0, hz, hx, q⟩ := h
    refine ⟨_, pss_one (ps_ret (pe_ix ix_list (pv 1) (pe_call (ok_draw B DD) hr (by rfl) DD.g DD.F.kp DD.b .nil pass0 (pa_cons (pv 0) (pa_cons (pe_callB call_len_seq (by rfl) B.len b_len (pa_cons (pv 1) pa_nil)) pa_nil))) (fun _ _ => rfl))), ?_⟩
    refine ⟨.ref p, rfl, .ref h, rfl, .ref p, rfl, p, xs, rfl, .inl hS, h, l, xs.length, rfl, h0, hz, hx, fun r H' hr hx' hB => ?_⟩
    have e : xs[r]? = some xs[r] := List.getElem?_eq_getElem hr
    exact ⟨p, xs, (r : Nat), xs[r], rfl, rfl, sqL_but hS n1 n2 hB, atI_nat e, q _ _ (List.getElem_mem hr) hx' hB⟩
def spOrder : Sp := fun vs H Q _ => ∃ (h l : Addr) (many : Nat), vs = [.ref h, .int (many : Nat)] ∧ many ≤ 60 ∧ HpAt H h l ∧
  ∀ p H' os, H p = none → H' p = some (.lst (lN os)) → os.Perm (List.range many) → HpAt H' h l → But h l H H' → Q (.ref p) H'
theorem ok_order {fD f : Addr} {fd fdD : FuncData} (B : Bn mg) (DD : Df K mg "_law_draw" sDraw ["_law_heap_here", "_law_many"] fD fdD) (D : Df K mg "_law_order" sOrder ["_law_heap_here", "_law_many"] f fd) : FnOk P w K mg base CX0 2 f fd ["_law_heap_here", "_law_many"] spOrder := by
  refine D.F.ok scOrder (fun vs H Q E h => ?_) (fun cdv A outer s H vs Q E hr h => ?_)
  · obtain ⟨h, l, many, rfl, _⟩ := h
    rfl
  · obtain ⟨h, l, many, rfl, hm, hx, q⟩ := h
    refine ⟨_, pss_cons (ps_set (i := 2) scOrder.nd rfl (Or.inl rfl) (pe_lst pa_nil))
      (pss_cons (ps_for PassesOwn.never rfl (pi_range1 (by rfl) B.range (pa_cons (pv 1) pa_nil)) (pg_name (i := 3) scOrder.nd rfl (Or.inl rfl))
        (pss_one (ps_expr (pe_bm PySem.F.plainAttrs_list PySem.F.slot_list_insert PySem.F.type_list_insert mt_insert (pv 2)
          (pa_cons (pe_call (ok_draw B DD) hr (by rfl) DD.g DD.F.kp DD.b .nil pass0 (pa_cons (pv 0) (pa_cons (pe_op op_add (pe_callB call_len_seq (by rfl) B.len b_len (pa_cons (pv 2) pa_nil)) pe_int) pa_nil))) (pa_cons (pv 3) pa_nil))))))
      (pss_one (ps_ret (pv 2)))), ?_⟩
    refine ⟨by decide, fun p hp => ?_⟩
    obtain ⟨is, st, x⟩ := hx
    have n1 : p ≠ h := fun e => by rw [e, x.at_h] at hp; cases hp
    have n2 : p ≠ l := fun e => by rw [e, x.at_l] at hp; cases hp
    refine ⟨.int (many : Nat), rfl, (many : Nat), rfl, by omega, by omega, ?_⟩
    rw [Int.toNat_natCast]
    refine for_it (walk_range0 (n := many)) (fun i σ H1 => ∃ os x3, σ = [some (.ref h), some (.int (many : Nat)), some (.ref p), x3] ∧ H1 p = some (.lst (lN os)) ∧ os.Perm (List.range i) ∧ HpAt H1 h l ∧ But h l H H1) ⟨[], _, rfl, upd_same, List.Perm.refl _, ⟨is, st, x.same (same_new hp)⟩, .of_same (same_new hp)⟩ (fun _ _ _ _ _ => trivial) (fun i y σ H2 H1 hi hP hY => ?_) (fun σ H1 hP => ?_)
    · obtain ⟨rfl, rfl⟩ := hY
      obtain ⟨os, x3, rfl, hp1, hperm, hx1, hB⟩ := hP
      have hlen : os.length = i := by rw [hperm.length_eq, List.length_range]
      refine ⟨.ref p, rfl, .inl ⟨rfl, _, .inl (.inl hp1)⟩, .ref h, rfl, .ref p, rfl, p, lN os, rfl, .inl (.inl (.inl hp1)), ((lN os).length : Nat), 1, rfl, rfl, h, l, os.length + 1, by rw [lN_len]; rfl, by omega, by omega, hx1, fun r H3 hr3 hx3 hB3 => ?_⟩
      have hp3 := hB3 _ _ hp1 n1 n2
      refine ⟨.int (i : Nat), rfl, p, lN os, (r : Nat), .int (i : Nat), rfl, rfl, hp3, by rw [lN_len]; exact szl (by omega), by omega, by omega, os.take r ++ [i] ++ os.drop r, _, rfl, ?_, ins_perm hperm, ?_, ?_⟩
      · rw [upd_same, Int.toNat_natCast]
        unfold lN
        rw [List.map_append, List.map_append, List.map_take, List.map_drop]
        rfl
      · obtain ⟨is3, st3, y3⟩ := hx3
        exact ⟨is3, st3, by rw [upd_ne n1.symm]; exact y3.at_h, by rw [upd_ne n2.symm]; exact y3.at_l, y3.lo, y3.hi, y3.len⟩
      · intro c o z z1 z2
        rw [upd_ne (ne_of_none z hp)]
        exact hB3 c o (hB c o z z1 z2) z1 z2
    · obtain ⟨os, x3, rfl, hp1, hperm, hx1, hB⟩ := hP
      exact ⟨.ref p, rfl, q p _ os hp hp1 hperm hx1 hB⟩
end
end K38

set_option Elab.async false
set_option linter.all false
set_option maxRecDepth 100000
set_option maxHeartbeats 4000000
/-! E3: _law_table. -/
namespace K38
open PySem PySem.Spec PyProof.Rows L2
theorem scTable : FnScope ["_law_kind", "_law_wheel", "_law_kinds_here", "_law_sign", "_law_extra", "_law_rows", "_law_one", "_law_turn", "_law_row", "_law_two", "_law_more", "_law_place", "_law_part"] ["_law_kind"] (defScope sTable) := ⟨rfl, rfl, rfl, by decide +kernel, rfl, by decide +kernel, by decide +kernel⟩
/-- the entry at i, j of the table of the kind w, k, s, x -/
def tabM (w k : Nat) (s x : Int) (i j : Nat) : Nat :=
  ((((i : Nat) : Int) % ((w : Nat) : Int) + (if decide (((w : Nat) : Int) ≤ ((i : Nat) : Int)) = true then s else 1) * (((j : Nat) : Int) % ((w : Nat) : Int)) + (if (decide (((w : Nat) : Int) ≤ ((i : Nat) : Int)) && decide (((w : Nat) : Int) ≤ ((j : Nat) : Int))) = true then x else 0)) % ((w : Nat) : Int)).toNat
    + w * ((i / w + j / w) % k)
/-- a kind at a -/
def KindAt (K : PySem.W.Frag) (H : Hp) (a : Addr) (w k : Nat) (s x : Int) : Prop := SqT K H a [.int (w : Nat), .int (k : Nat), .int s, .int x]
/-- a table as a list of new lists at p -/
def LTab (H0 H : Hp) (p : Addr) (n : Nat) (m : Nat → Nat → Nat) : Prop :=
  ∃ rs : List Addr, rs.length = n ∧ H p = some (.lst (rs.map V.ref)) ∧ ∀ (i : Nat) (r : Addr), rs[i]? = some r → H0 r = none ∧ H r = some (.lst (rowV n m i))
theorem rowV_take {n i j : Nat} {m : Nat → Nat → Nat} (hj : j < n) : (rowV n m i).take (j + 1) = (rowV n m i).take j ++ [.int (m i j : Nat)] := by
  rw [List.take_add_one, rowV_at hj]
  rfl
theorem tab_ent {w k : Nat} {s x : Int} {i j : Nat} (hw : 0 < w) :
    ((((i : Nat) : Int) % ((w : Nat) : Int) + (if decide (((w : Nat) : Int) ≤ ((i : Nat) : Int)) = true then s else 1) * (((j : Nat) : Int) % ((w : Nat) : Int)) + (if (decide (((w : Nat) : Int) ≤ ((i : Nat) : Int)) && decide (((w : Nat) : Int) ≤ ((j : Nat) : Int))) = true then x else 0)) % ((w : Nat) : Int))
      + ((w : Nat) : Int) * ((((i : Nat) : Int) / ((w : Nat) : Int) + ((j : Nat) : Int) / ((w : Nat) : Int)) % ((k : Nat) : Int)) = ((tabM w k s x i j : Nat) : Int) := by
  unfold tabM
  rw [Int.natCast_add, Int.natCast_mul, Int.natCast_emod, Int.natCast_add, Int.natCast_ediv, Int.natCast_ediv, Int.toNat_of_nonneg (Int.emod_nonneg _ (by omega))]
theorem ifV {c : Bool} {σ : L2.St} {H : Hp} {Q : VK} {i : Nat} {a b : Int} (e : σ[i]? = some (some (.int a))) (q : Q (.int (if c = true then a else b)) H) : if c = true then tVar i σ H Q else tC (.int b) σ H Q := by
  cases c
  · exact q
  · exact ⟨_, e, q⟩
theorem andIf {σ : L2.St} {H : Hp} {Q : VK} {c1 c2 : Bool} {t2 : TT} {i : Nat} {a b : Int} (e : σ[i]? = some (some (.int a))) (h2 : ∀ R : Bool → Hp → Prop, R c2 H → t2 σ H R) (q : Q (.int (if (c1 && c2) = true then a else b)) H) :
    if c1 = true then t2 σ H (fun c H1 => if c = true then tVar i σ H1 Q else tC (.int b) σ H1 Q) else (fun c H1 => if c = true then tVar i σ H1 Q else tC (.int b) σ H1 Q) false H := by
  cases c1
  · exact q
  · exact h2 _ (ifV e q)
section
variable {P : Program} {w₀ : World} {K : PySem.W.Frag} {mg : Str → Option Value} {base : Heap}
def spTable (K : PySem.W.Frag) : Sp := fun vs H Q _ => ∃ (a : Addr) (w k : Nat) (s x : Int), vs = [.ref a] ∧ KindAt K H a w k s x ∧ 0 < w ∧ 0 < k ∧ w ≤ 1000 ∧ k ≤ 1000 ∧ w * k ≤ 1000 ∧ (-1000 ≤ s ∧ s ≤ 1000) ∧
  ∀ p H', Same H H' → H p = none → LTab H H' p (w * k) (tabM w k s x) → Q (.ref p) H'
theorem ok_table {f : Addr} {fd : FuncData} (B : Bn mg) (D : Df K mg "_law_table" sTable ["_law_kind"] f fd) : FnOk P w₀ K mg base CX0 1 f fd ["_law_kind"] (spTable K) := by
  refine D.F.ok scTable (fun vs H Q E h => ?_) (fun cdv A outer s H vs Q E hr h => ?_)
  · obtain ⟨a, w, k, s, x, rfl, _⟩ := h
    rfl
  · obtain ⟨a, w, k, s, x, rfl, hk, hw0, hk0, hw1, hk1, hwk, hs, q⟩ := h
    refine ⟨_, pss_cons (ps_asg (pv 0) (pg_tup (n := 4) rfl (pgs_cons (pg_name (i := 1) scTable.nd rfl (Or.inl rfl)) (pgs_cons (pg_name (i := 2) scTable.nd rfl (Or.inl rfl)) (pgs_cons (pg_name (i := 3) scTable.nd rfl (Or.inl rfl)) (pgs_cons (pg_name (i := 4) scTable.nd rfl (Or.inl rfl)) pgs_nil))))))
      (pss_cons (ps_set (i := 5) scTable.nd rfl (Or.inl rfl) (pe_lst pa_nil))
      (pss_cons (ps_for PassesOwn.never rfl (pi_range1 (by rfl) B.range (pa_cons (pe_op op_mul (pv 1) (pv 2)) pa_nil)) (pg_name (i := 6) scTable.nd rfl (Or.inl rfl))
        (pss_cons (ps_par (i := 7) (j := 8) rfl scTable.nd rfl rfl (by decide) rfl rfl (pa_cons (pe_ifExp (pt_cmpR op_ge (pv 6) (pv 1) (nomark _)) (pv 3) pe_int) (pa_cons (pe_lst pa_nil) pa_nil)) (by rfl))
        (pss_cons (ps_for PassesOwn.never rfl (pi_range1 (by rfl) B.range (pa_cons (pe_op op_mul (pv 1) (pv 2)) pa_nil)) (pg_name (i := 9) scTable.nd rfl (Or.inl rfl))
          (pss_cons (ps_set (i := 10) scTable.nd rfl (Or.inl rfl) (pe_ifExp (PW.pt (pw_and (pt_cmpR op_ge (pv 6) (pv 1) (nomark _)) (pw_and1 (pt_cmpR op_ge (pv 9) (pv 1) (nomark _))))) (pv 4) pe_int))
          (pss_cons (ps_par (i := 11) (j := 12) rfl scTable.nd rfl rfl (by decide) rfl rfl
            (pa_cons (pe_op op_mod (pe_callTy call_int1 (by rfl) B.int b_int (pa_cons (pe_op op_add (pe_op op_add (pe_op op_mod (pv 6) (pv 1)) (pe_op op_mul (pv 7) (pe_op op_mod (pv 9) (pv 1)))) (pv 10)) pa_nil)) (pv 1))
            (pa_cons (pe_op op_mod (pe_callTy call_int1 (by rfl) B.int b_int (pa_cons (pe_op op_add (pe_op op_fdiv (pv 6) (pv 1)) (pe_op op_fdiv (pv 9) (pv 1))) pa_nil)) (pv 2)) pa_nil)) (by rfl))
          (pss_one (ps_expr (pe_bm PySem.F.plainAttrs_list PySem.F.slot_list_append PySem.F.type_list_append mt_append (pv 8) (pa_cons (pe_op op_add (pv 11) (pe_op op_mul (pv 1) (pv 12))) pa_nil)))))))
        (pss_one (ps_expr (pe_bm PySem.F.plainAttrs_list PySem.F.slot_list_append PySem.F.type_list_append mt_append (pv 5) (pa_cons (pv 8) pa_nil)))))))
      (pss_one (ps_ret (pv 5))))), ?_⟩
    have hwI : (0 : Int) < ((w : Nat) : Int) := by omega
    have hkI : (0 : Int) < ((k : Nat) : Int) := by omega
    have hmul : ((w : Nat) : Int) * ((k : Nat) : Int) = ((w * k : Nat) : Int) := (Int.natCast_mul w k).symm
    have cw : ∀ y : Int, CMul ((w : Nat) : Int) y := fun y => .inl ⟨by omega, by omega⟩
    have cd : ∀ y : Int, CDiv y ((w : Nat) : Int) := fun y => ⟨hwI, by omega⟩
    refine ⟨.ref a, rfl, a, _, rfl, hk, rfl, _, _, rfl, _, _, rfl, _, _, rfl, _, _, rfl, rfl, ?_⟩
    refine ⟨by decide, fun p hp => ?_⟩
    refine ⟨.int (w : Nat), rfl, .int (k : Nat), rfl, w, k, rfl, rfl, cw _, _, rfl, ?_⟩
    rw [hmul, Int.toNat_natCast]
    refine ⟨by omega, by omega, ?_⟩
    refine for_it (walk_range0 (n := w * k)) (fun i σ H1 => ∃ (rs : List Addr) (x6 x7 x8 x9 x10 x11 x12 : Option V), rs.length = i ∧ σ = [some (.ref a), some (.int (w : Nat)), some (.int (k : Nat)), some (.int s), some (.int x), some (.ref p), x6, x7, x8, x9, x10, x11, x12] ∧ Same H H1 ∧
      H1 p = some (.lst (rs.map V.ref)) ∧ ∀ (i' : Nat) (r : Addr), rs[i']? = some r → r ≠ p ∧ H r = none ∧ H1 r = some (.lst (rowV (w * k) (tabM w k s x) i'))) ⟨[], _, _, _, _, _, _, _, rfl, rfl, same_new hp, upd_same, fun i' r e => by cases e⟩ (fun _ _ _ _ _ => trivial) (fun i y σ H2 H1 hi hP hY => ?_) (fun σ H1 hP => ?_)
    · obtain ⟨rfl, rfl⟩ := hY
      obtain ⟨rs, x6, x7, x8, x9, x10, x11, x12, hrl, rfl, s1, hp1, hrs⟩ := hP
      refine ⟨.int (i : Nat), rfl, .int (w : Nat), rfl, i, w, rfl, rfl, _, rfl, ifV rfl ⟨by decide, fun r hr0 => ?_⟩⟩
      have hrp : r ≠ p := fun e => by rw [e, hp1] at hr0; cases hr0
      have hrn : H r = none := s1.free hr0
      have s2 := s1.trans (same_new (o := .lst []) hr0)
      have hp2 := (same_new (o := .lst []) hr0) _ _ hp1
      have hrs2 : ∀ (i' : Nat) (r' : Addr), rs[i']? = some r' → r' ≠ p ∧ r' ≠ r ∧ H r' = none ∧ upd H1 r (.lst []) r' = some (.lst (rowV (w * k) (tabM w k s x) i')) := fun i' r' e => by
        obtain ⟨h1, h2, h3⟩ := hrs i' r' e
        have h4 := ne_of_none h3 hr0
        exact ⟨h1, h4, h2, by rw [upd_ne h4]; exact h3⟩
      have hrr : upd H1 r (.lst []) r = some (.lst []) := upd_same
      generalize upd H1 r (.lst []) = H3 at *
      refine ⟨_, _, rfl, ?_⟩
      refine ⟨.int (w : Nat), rfl, .int (k : Nat), rfl, w, k, rfl, rfl, cw _, _, rfl, ?_⟩
      rw [hmul, Int.toNat_natCast]
      refine ⟨by omega, by omega, ?_⟩
      refine for_it (walk_range0 (n := w * k)) (fun j σ H4 => ∃ (x9 x10 x11 x12 : Option V), σ = [some (.ref a), some (.int (w : Nat)), some (.int (k : Nat)), some (.int s), some (.int x), some (.ref p), some (.int (i : Nat)), some (.int (if decide (((w : Nat) : Int) ≤ ((i : Nat) : Int)) = true then s else 1)), some (.ref r), x9, x10, x11, x12] ∧ Same H H4 ∧
        H4 p = some (.lst (rs.map V.ref)) ∧ H4 r = some (.lst ((rowV (w * k) (tabM w k s x) i).take j)) ∧ ∀ (i' : Nat) (r' : Addr), rs[i']? = some r' → r' ≠ p ∧ r' ≠ r ∧ H r' = none ∧ H4 r' = some (.lst (rowV (w * k) (tabM w k s x) i'))) ⟨_, _, _, _, rfl, s2, hp2, hrr, hrs2⟩ (fun _ _ _ _ _ => trivial) (fun j y σ H5 H4 hj hP hY => ?_) (fun σ H4 hP => ?_)
      · obtain ⟨rfl, rfl⟩ := hY
        obtain ⟨x9, x10, x11, x12, rfl, s4, hp4, hr4, hrs4⟩ := hP
        refine ⟨.int (i : Nat), rfl, .int (w : Nat), rfl, i, w, rfl, rfl, _, rfl, andIf rfl (fun R q => ⟨.int (j : Nat), rfl, .int (w : Nat), rfl, j, w, rfl, rfl, _, rfl, q⟩) ?_⟩
        have ct : ∀ y : Int, CMul (if decide (((w : Nat) : Int) ≤ ((i : Nat) : Int)) = true then s else 1) y := fun y => .inl (by split <;> constructor <;> omega)
        refine ⟨.int (i : Nat), rfl, .int (w : Nat), rfl, i, w, rfl, rfl, hwI, .int _, rfl, .int (j : Nat), rfl, .int (w : Nat), rfl, j, w, rfl, rfl, hwI, _, _, rfl, rfl, ct _, _, _, rfl, rfl, .int _, rfl, _, _, rfl, rfl, .inl ⟨_, rfl, .int (w : Nat), rfl, _, w, rfl, rfl, hwI, ?_⟩⟩
        refine ⟨.int (i : Nat), rfl, .int (w : Nat), rfl, i, w, rfl, rfl, cd _, .int (j : Nat), rfl, .int (w : Nat), rfl, j, w, rfl, rfl, cd _, _, _, rfl, rfl, .inl ⟨_, rfl, .int (k : Nat), rfl, _, k, rfl, rfl, hkI, _, _, rfl, ?_⟩⟩
        refine ⟨.ref r, rfl, .inl ⟨rfl, _, .inl (.inl hr4)⟩, .int _, rfl, .int (w : Nat), rfl, .int _, rfl, w, _, rfl, rfl, cw _, _, _, rfl, rfl, r, _, .int _, rfl, rfl, hr4, ?_, ?_⟩
        · rw [List.length_take, rowV_len]
          exact szl (by omega)
        · rw [tab_ent hw0, ← rowV_take hj]
          refine ⟨_, _, _, _, rfl, fun c o z => ?_, ?_, upd_same, fun i' r' e => ?_⟩
          · rw [upd_ne (ne_of_none z hrn)]
            exact s4 c o z
          · rw [upd_ne hrp.symm]
            exact hp4
          · obtain ⟨h1, h2, h3, h4⟩ := hrs4 i' r' e
            exact ⟨h1, h2, h3, by rw [upd_ne h2]; exact h4⟩
      · obtain ⟨x9, x10, x11, x12, rfl, s4, hp4, hr4, hrs4⟩ := hP
        rw [List.take_of_length_le (by rw [rowV_len]; exact Nat.le_refl _)] at hr4
        refine ⟨.ref p, rfl, .inl ⟨rfl, _, .inl (.inl hp4)⟩, .ref r, rfl, p, _, .ref r, rfl, rfl, hp4, by rw [List.length_map]; exact szl (by omega), ?_⟩
        refine ⟨rs ++ [r], _, _, _, _, _, _, _, by rw [List.length_append, hrl]; rfl, rfl, fun c o z => ?_, by rw [upd_same, List.map_append]; rfl, fun i' r' e => ?_⟩
        · rw [upd_ne (ne_of_none z hp)]
          exact s4 c o z
        · by_cases hi' : i' < rs.length
          · rw [List.getElem?_append_left hi'] at e
            obtain ⟨h1, h2, h3, h4⟩ := hrs4 i' r' e
            exact ⟨h1, h3, by rw [upd_ne h1]; exact h4⟩
          · rw [List.getElem?_append_right (by omega)] at e
            have h0 : i' - rs.length = 0 := by
              by_cases h0 : i' - rs.length = 0
              · exact h0
              · rw [List.getElem?_eq_none (by simp; omega)] at e
                cases e
            rw [h0] at e
            obtain rfl : r = r' := Option.some.inj e
            have ei : i' = i := by omega
            subst ei
            exact ⟨hrp, hrn, by rw [upd_ne hrp]; exact hr4⟩
    · obtain ⟨rs, x6, x7, x8, x9, x10, x11, x12, hrl, rfl, s1, hp1, hrs⟩ := hP
      exact ⟨.ref p, rfl, q p H1 s1 hp ⟨rs, hrl, hp1, fun i' r e => (hrs i' r e).2⟩⟩
end
end K38

set_option Elab.async false
set_option linter.all false
set_option maxRecDepth 100000
set_option maxHeartbeats 4000000
/-! E4: _law_renamed. -/
namespace K38
open PySem PySem.Spec PyProof.Rows L2
theorem scRenamed : FnScope ["_law_table_here", "_law_names", "_law_one", "_law_rows", "_law_two", "_law_row"] ["_law_table_here", "_law_names"] (defScope sRenamed) := ⟨rfl, rfl, rfl, by decide +kernel, rfl, by decide +kernel, by decide +kernel⟩
/-- tuple(list), no dict of its own -/
def rTZ (K : PySem.W.Frag) : List V → Hp → VK → Prop := fun xs H Q => ∃ p ys, xs = [.ref p] ∧ SqL K H p ys ∧ ∀ l o, H l = none → o.dict = none → Q (.ref l) (upd H l (.frz o (.tup ys)))
theorem call_tupZ' {X : Cx} : CallR X (.type "tuple") (rTZ X.K) := call_tupZ
def rLenSq (K : PySem.W.Frag) : List V → Hp → VK → Prop := fun xs H Q => ∃ p ys, xs = [.ref p] ∧ (SqL K H p ys ∨ SqT K H p ys) ∧ Q (.int ys.length) H
theorem call_len_sq {X : Cx} : CallR X (.builtin "len") (rLenSq X.K) := call_len_seq
/-- a table as a list of lists at t -/
def LTK (K : PySem.W.Frag) (H : Hp) (t : Addr) (n : Nat) (m : Nat → Nat → Nat) : Prop :=
  ∃ rs : List Addr, rs.length = n ∧ SqL K H t (rs.map V.ref) ∧ ∀ (i : Nat) (r : Addr), rs[i]? = some r → SqL K H r (rowV n m i)
theorem sqL_same {K : PySem.W.Frag} {H H' : Hp} {a : Addr} {xs : List V} (e : Same H H') (h : SqL K H a xs) : SqL K H' a xs := e.seq h
theorem LTK.same {K : PySem.W.Frag} {H H' : Hp} {t : Addr} {n : Nat} {m : Nat → Nat → Nat} (h : LTK K H t n m) (e : Same H H') : LTK K H' t n m := by
  obtain ⟨rs, h1, h2, h3⟩ := h
  exact ⟨rs, h1, sqL_same e h2, fun i r q => sqL_same e (h3 i r q)⟩
theorem LTab.k {K : PySem.W.Frag} {H0 H : Hp} {p : Addr} {n : Nat} {m : Nat → Nat → Nat} (h : LTab H0 H p n m) : LTK K H p n m := by
  obtain ⟨rs, h1, h2, h3⟩ := h
  exact ⟨rs, h1, .inl (.inl h2), fun i r q => .inl (.inl (h3 i r q).2)⟩
/-- t[i][j] of lists -/
theorem ix_tabL {K : PySem.W.Frag} {σ : L2.St} {H : Hp} {Q : VK} {ta ti tj : TE} {a : Addr} {n : Nat} {m : Nat → Nat → Nat} {i j : Nat} (h : LTK K H a n m) (hi : i < n) (hj : j < n)
    (ea : ∀ Q : VK, Q (.ref a) H → ta σ H Q) (ei : ∀ Q : VK, Q (.int (i : Nat)) H → ti σ H Q) (ej : ∀ Q : VK, Q (.int (j : Nat)) H → tj σ H Q) (q : Q (.int (m i j : Nat)) H) :
    tOp (rIxL K) (tOp (rIxL K) ta ti) tj σ H Q := by
  obtain ⟨rs, h1, h2, h3⟩ := h
  have e : rs[i]? = some (rs[i]'(by omega)) := List.getElem?_eq_getElem (by omega)
  refine ea _ (ei _ ⟨a, _, (i : Nat), .ref (rs[i]'(by omega)), rfl, rfl, h2, atI_nat (by rw [List.getElem?_map, e]; rfl), ej _ ⟨rs[i]'(by omega), _, (j : Nat), _, rfl, rfl, h3 i _ e, atI_nat (rowV_at hj), q⟩⟩)
/-- l[i] of a list of numbers -/
theorem ix_lstF {K : PySem.W.Frag} {σ : L2.St} {H : Hp} {Q : VK} {ta ti : TE} {a : Addr} {n i : Nat} {f : Nat → Nat} (h : SqL K H a ((tupF n f).map V.int)) (hi : i < n)
    (ea : ∀ Q : VK, Q (.ref a) H → ta σ H Q) (ei : ∀ Q : VK, Q (.int (i : Nat)) H → ti σ H Q) (q : Q (.int (f i : Nat)) H) : tOp (rIxL K) ta ti σ H Q :=
  ea _ (ei _ ⟨a, _, (i : Nat), .int (f i : Nat), rfl, rfl, h, atI_nat (by rw [List.getElem?_map, tupF_at hi]; rfl), q⟩)
theorem rep_row (n i : Nat) : (List.replicate ((n : Nat) : Int).toNat [V.int 0]).flatten = rowV n (fun _ _ => 0) i := by
  rw [Int.toNat_natCast]
  unfold rowV
  induction n with
  | zero => rfl
  | succ n ih =>
    rw [List.replicate_succ', List.flatten_append, ih, List.range_succ, List.map_append]
    rfl
theorem row_set {n i b v : Nat} {R : Nat → Nat → Nat} (a : Nat) : (rowV n R i).set b (.int (v : Nat)) = rowV n (fun x y => if x = i ∧ y = b then v else R x y) i := by
  apply List.ext_getElem?
  intro j
  by_cases hj : j < n
  · rw [rowV_at hj]
    by_cases e : b = j
    · subst e
      rw [List.getElem?_set_self (by rw [rowV_len]; exact hj)]
      show some (V.int (v : Nat)) = some (V.int ((if i = i ∧ b = b then v else R i b : Nat) : Nat))
      rw [if_pos ⟨rfl, rfl⟩]
    · rw [List.getElem?_set_ne e, rowV_at hj]
      show some (V.int (R i j : Nat)) = some (V.int ((if i = i ∧ j = b then v else R i j : Nat) : Nat))
      rw [if_neg fun z => e z.2.symm]
  · rw [List.getElem?_eq_none (by rw [List.length_set, rowV_len]; omega), List.getElem?_eq_none (by rw [rowV_len]; omega)]
theorem row_ne {n i b v a : Nat} {R : Nat → Nat → Nat} (h : i ≠ a) : rowV n (fun x y => if x = a ∧ y = b then v else R x y) i = rowV n R i := by
  unfold rowV
  refine List.map_congr_left fun j _ => ?_
  show V.int ((if i = a ∧ j = b then v else R i j : Nat) : Nat) = V.int (R i j : Nat)
  rw [if_neg fun z => h z.1]
theorem ixN_nat {n j : Nat} (h : j < n) : ixN n ((j : Nat) : Int) = some j := by
  unfold ixN
  rw [if_pos (by omega), if_pos (by omega)]
  rfl
section
variable {P : Program} {w₀ : World} {K : PySem.W.Frag} {mg : Str → Option Value} {base : Heap}
def spRenamed (K : PySem.W.Frag) : Sp := fun vs H Q _ => ∃ (t nm : Addr) (n : Nat) (m : Nat → Nat → Nat) (p : Nat → Nat), vs = [.ref t, .ref nm] ∧ LTK K H t n m ∧ SqL K H nm ((tupF n p).map V.int) ∧ n ≤ 1000 ∧ (∀ i j, i < n → j < n → m i j < n) ∧
  (∀ i, i < n → p i < n) ∧ (∀ i j, i < n → j < n → p i = p j → i = j) ∧ ∀ a g H', Same H H' → TabZ K H' a n g → Iso n m g p → Q (.ref a) H'
theorem ok_renamed {f : Addr} {fd : FuncData} (B : Bn mg) (D : Df K mg "_law_renamed" sRenamed ["_law_table_here", "_law_names"] f fd) : FnOk P w₀ K mg base CX0 1 f fd ["_law_table_here", "_law_names"] (spRenamed K) := by
  refine D.F.ok scRenamed (fun vs H Q E h => ?_) (fun cdv A outer s H vs Q E hr h => ?_)
  · obtain ⟨t, nm, n, m, p, rfl, _⟩ := h
    rfl
  · obtain ⟨t, nm, n, m, p, rfl, ht, hnm, hz, hm, hp, hinj, q⟩ := h
    refine ⟨_, pss_cons (ps_setLc (i := 3) (own := [("_law_one", 2)]) (g := gName 2) (tt := tYes) rfl scRenamed.nd rfl rfl (by rfl) (pi_list (pv 0)) (blkOk_by (N := ["_law_table_here", "_law_names", "_law_one", "_law_rows", "_law_two", "_law_row"]) (sc := defScope sRenamed) (by decide +kernel))
        (fun _ _ _ _ _ => pg_name (i := 2) scRenamed.nd rfl (Or.inl rfl)) (fun _ _ _ _ _ => pts_nil) (fun _ _ _ _ _ => pe_op op_rep (pe_lst (pa_cons pe_int pa_nil)) (pe_callB (r := rLenSq K) call_len_sq (by rfl) B.len b_len (pa_cons (pv 0) pa_nil))))
      (pss_cons (ps_for PassesOwn.never rfl (pi_range1 (by rfl) B.range (pa_cons (pe_callB call_len_seq (by rfl) B.len b_len (pa_cons (pv 0) pa_nil)) pa_nil)) (pg_name (i := 2) scRenamed.nd rfl (Or.inl rfl))
        (pss_one (ps_for PassesOwn.never rfl (pi_range1 (by rfl) B.range (pa_cons (pe_callB call_len_seq (by rfl) B.len b_len (pa_cons (pv 0) pa_nil)) pa_nil)) (pg_name (i := 4) scRenamed.nd rfl (Or.inl rfl))
          (pss_one (ps_asg (pe_ix ix_list (pv 1) (pe_ix ix_list (pe_ix ix_list (pv 0) (pv 2) (fun _ _ => rfl)) (pv 4) (fun _ _ => rfl)) (fun _ _ => rfl))
            (pg_sub (pe_ix ix_list (pv 3) (pe_ix ix_list (pv 1) (pv 2) (fun _ _ => rfl)) (fun _ _ => rfl)) (pe_ix ix_list (pv 1) (pv 4) (fun _ _ => rfl)) set_list))))))
      (pss_one (ps_ret (pe_callTy call_tuple_of (by rfl) B.tuple b_tuple (pa_cons (pe_lc (own := [("_law_row", 5)]) (g := gName 5) (tt := tYes) rfl scRenamed.nd (pi_list (pv 3)) (blkOk_by (N := ["_law_table_here", "_law_names", "_law_one", "_law_rows", "_law_two", "_law_row"]) (sc := defScope sRenamed) (by decide +kernel))
        (fun _ _ _ _ _ => pg_name (i := 5) scRenamed.nd rfl (Or.inl rfl)) (fun _ _ _ _ _ => pts_nil) (fun _ _ _ _ _ => pe_callTy (r := rTZ K) call_tupZ' (by rfl) B.tuple b_tuple (pa_cons (pv 5) pa_nil))) pa_nil))))), ?_⟩
    have htl : ∃ xt : List V, SqL K H t xt ∧ xt.length = n := by
      obtain ⟨rs, h1, h2, h3⟩ := ht
      exact ⟨_, h2, by rw [List.length_map]; exact h1⟩
    obtain ⟨xt, ht1, ht2⟩ := htl
    refine ⟨.ref t, rfl, t, rfl, ⟨_, ht1⟩, fun D hD => ?_⟩
    refine lc_it (walk_list (xs := xt)) (fun i H1 => Same H H1 ∧ ∃ qs : List Addr, qs.length = i ∧ H1 D = some (.lst (qs.map V.ref)) ∧ qs.Nodup ∧ D ∉ qs ∧ ∀ (j : Nat) (r : Addr), qs[j]? = some r → H r = none ∧ H1 r = some (.lst (rowV n (fun _ _ => 0) j)))
      ⟨same_new hD, [], rfl, upd_same, List.nodup_nil, List.not_mem_nil, fun j r e => by cases e⟩ (fun i H1 _ h => sqL_same h.1 ht1) (fun i y H2 H1 hi hP hY => ?_) (fun H1 hP => ?_)
    · obtain ⟨rfl, hy⟩ := hY
      obtain ⟨s1, qs, hql, hD1, hnd, hDq, hqs⟩ := hP
      refine ⟨rfl, tyes ⟨by decide, fun e he => ?_⟩⟩
      have s2 := s1.trans (same_new (o := .lst [V.int 0]) he)
      refine ⟨.ref t, rfl, t, xt, rfl, .inl (sqL_same s2 ht1), e, (n : Nat), [.int 0], rfl, by rw [ht2], upd_same, by omega, by omega, ?_, fun r hr0 => ?_⟩
      · rw [Int.toNat_natCast, List.length_singleton, Nat.one_mul]
        exact sz (by omega)
      rw [rep_row n i]
      have hr1 : H r = none := s2.free hr0
      have sE : Same H1 (upd (upd H1 e (.lst [V.int 0])) r (.lst (rowV n (fun _ _ => 0) i))) := (same_new he).trans (same_new hr0)
      have hD3 := sE _ _ hD1
      have hrr : upd (upd H1 e (.lst [V.int 0])) r (.lst (rowV n (fun _ _ => 0) i)) r = some (.lst (rowV n (fun _ _ => 0) i)) := upd_same
      have hrn : ∀ r' ∈ qs, r' ≠ r := fun r' hr' z => by
        obtain ⟨j, hj⟩ := List.getElem?_of_mem hr'
        have h3 := (same_new (o := .lst [V.int 0]) he) _ _ (hqs j r' hj).2
        rw [z, hr0] at h3
        cases h3
      have hDr : D ≠ r := ne_of_none ((same_new (o := .lst [V.int 0]) he) _ _ hD1) hr0
      generalize upd (upd H1 e (.lst [V.int 0])) r (.lst (rowV n (fun _ _ => 0) i)) = H3 at *
      have sH3 := s1.trans sE
      refine ⟨_, hD3, by rw [List.length_map]; exact szl (by omega), fun c o z => ?_, qs ++ [r], by rw [List.length_append, hql]; rfl, by rw [upd_same, List.map_append]; rfl, ?_, ?_, fun j r' z => ?_⟩
      · rw [upd_ne (ne_of_none z hD)]
        exact sH3 c o z
      · rw [List.nodup_append]
        refine ⟨hnd, by simp, fun a ha b hb e => ?_⟩
        have : b = r := by simpa using hb
        exact hrn a ha (by rw [e, this])
      · intro z
        rcases List.mem_append.mp z with z | z
        · exact hDq z
        · exact hDr (by simpa using z)
      · by_cases hj : j < qs.length
        · rw [List.getElem?_append_left hj] at z
          obtain ⟨h1, h2⟩ := hqs j r' z
          have h3 : r' ≠ D := fun e => hDq (by rw [← e]; exact List.mem_of_getElem? z)
          exact ⟨h1, by rw [upd_ne h3]; exact sE _ _ h2⟩
        · rw [List.getElem?_append_right (by omega)] at z
          have h0 : j - qs.length = 0 := by
            by_cases h0 : j - qs.length = 0
            · exact h0
            · rw [List.getElem?_eq_none (by simp; omega)] at z
              cases z
          rw [h0] at z
          obtain rfl : r = r' := Option.some.inj z
          have ej : j = i := by omega
          subst ej
          exact ⟨hr1, by rw [upd_ne hDr.symm]; exact hrr⟩
    obtain ⟨s1, qs, hql, hD1, hnd, hDq, hqs⟩ := hP
    rw [ht2] at hql
    have uni : ∀ (i j : Nat) (r : Addr), qs[i]? = some r → qs[j]? = some r → i = j := fun i j r h1 h2 => by
      obtain ⟨a1, b1⟩ := List.getElem?_eq_some_iff.mp h1
      obtain ⟨a2, b2⟩ := List.getElem?_eq_some_iff.mp h2
      exact (List.getElem_inj hnd).mp (b1.trans b2.symm)
    refine ⟨.ref t, rfl, t, xt, rfl, .inl (sqL_same s1 ht1), (n : Nat), by rw [ht2], by omega, by omega, ?_⟩
    rw [Int.toNat_natCast]
    refine for_it (walk_range0 (n := n)) (fun i σ H2 => ∃ (x2 x4 x5 : Option V) (R : Nat → Nat → Nat), σ = [some (.ref t), some (.ref nm), x2, some (.ref D), x4, x5] ∧ Same H H2 ∧ H2 D = some (.lst (qs.map V.ref)) ∧ (∀ (j : Nat) (r : Addr), qs[j]? = some r → H2 r = some (.lst (rowV n R j))) ∧
      ∀ i' j, i' < i → j < n → R (p i') (p j) = p (m i' j)) ⟨_, _, _, _, rfl, s1, hD1, fun j r e => (hqs j r e).2, fun i' j h => absurd h (by omega)⟩ (fun _ _ _ _ _ => trivial) (fun i y σ H3 H2 hi hP hY => ?_) (fun σ H2 hP => ?_)
    · obtain ⟨rfl, rfl⟩ := hY
      obtain ⟨x2, x4, x5, R, rfl, s2, hD2, hR, hdone⟩ := hP
      refine ⟨.ref t, rfl, t, xt, rfl, .inl (sqL_same s2 ht1), (n : Nat), by rw [ht2], by omega, by omega, ?_⟩
      rw [Int.toNat_natCast]
      refine for_it (walk_range0 (n := n)) (fun j σ H4 => ∃ (x4 x5 : Option V) (R : Nat → Nat → Nat), σ = [some (.ref t), some (.ref nm), some (.int (i : Nat)), some (.ref D), x4, x5] ∧ Same H H4 ∧ H4 D = some (.lst (qs.map V.ref)) ∧ (∀ (j : Nat) (r : Addr), qs[j]? = some r → H4 r = some (.lst (rowV n R j))) ∧
        (∀ i' j, i' < i → j < n → R (p i') (p j) = p (m i' j)) ∧ ∀ j', j' < j → R (p i) (p j') = p (m i j')) ⟨_, _, R, rfl, s2, hD2, hR, hdone, fun j' h => absurd h (by omega)⟩ (fun _ _ _ _ _ => trivial) (fun j y σ H5 H4 hj hP hY => ?_) (fun σ H4 hP => ?_)
      · obtain ⟨rfl, rfl⟩ := hY
        clear hR hdone
        obtain ⟨x4, x5, R, rfl, s4, hD4, hR, hdone, hrow⟩ := hP
        have hpi := hp i hi
        have hpj := hp j hj
        have eq : qs[p i]? = some (qs[p i]'(by omega)) := List.getElem?_eq_getElem (by omega)
        have hnm4 := sqL_same s4 hnm
        refine ix_lstF hnm4 (hm i j hi hj) (var_is rfl) (fun Q q => ix_tabL (ht.same s4) hi hj (var_is rfl) (var_is rfl) (var_is rfl) q) ?_
        refine ⟨.ref D, rfl, ix_lstF hnm4 hi (var_is rfl) (var_is rfl) ⟨D, _, (p i : Nat), .ref (qs[p i]'(by omega)), rfl, rfl, .inl (.inl hD4), atI_nat (by rw [List.getElem?_map, eq]; rfl), ?_⟩⟩
        refine ix_lstF hnm4 hj (var_is rfl) (var_is rfl) ⟨_, _, (p j : Nat), p j, rfl, rfl, hR _ _ eq, ixN_nat (by rw [rowV_len]; exact hpj), ?_⟩
        rw [row_set 0]
        have hne : D ≠ qs[p i]'(by omega) := fun z => hDq (by rw [z]; exact List.getElem_mem _)
        refine ⟨_, _, fun x y => if x = p i ∧ y = p j then p (m i j) else R x y, rfl, fun c o z => ?_, by rw [upd_ne hne]; exact hD4, fun k r e => ?_, fun i' j' hi' hj' => ?_, fun j' hj' => ?_⟩
        · rw [upd_ne (ne_of_none z (hqs _ _ eq).1)]
          exact s4 c o z
        · by_cases ek : k = p i
          · subst ek
            rw [eq] at e
            obtain rfl := Option.some.inj e
            exact upd_same
          · have hr : r ≠ qs[p i]'(by omega) := fun z => ek (uni k (p i) r e (by rw [eq, z]))
            rw [upd_ne hr, row_ne ek]
            exact hR k r e
        · show (if p i' = p i ∧ p j' = p j then p (m i j) else R (p i') (p j')) = p (m i' j')
          rw [if_neg fun z => by
            have := hinj i' i (by omega) hi z.1
            omega]
          exact hdone i' j' hi' hj'
        · show (if p i = p i ∧ p j' = p j then p (m i j) else R (p i) (p j')) = p (m i j')
          rcases Nat.lt_or_eq_of_le (Nat.le_of_lt_succ hj') with z | z
          · rw [if_neg fun y => by
              have := hinj j' j (by omega) hj y.2
              omega]
            exact hrow j' z
          · rw [if_pos ⟨rfl, by rw [z]⟩, z]
      · clear hR hdone
        obtain ⟨x4, x5, R, rfl, s4, hD4, hR, hdone, hrow⟩ := hP
        refine ⟨_, _, _, R, rfl, s4, hD4, hR, fun i' j hi' hj => ?_⟩
        rcases Nat.lt_or_eq_of_le (Nat.le_of_lt_succ hi') with z | z
        · exact hdone i' j z hj
        · rw [z]; exact hrow j hj
    · obtain ⟨x2, x4, x5, R, rfl, s2, hD2, hR, hdone⟩ := hP
      refine ⟨.ref D, rfl, D, rfl, ⟨_, .inl (.inl hD2)⟩, fun D2 hD3 => ?_⟩
      refine lc_it (walk_list (xs := qs.map V.ref)) (fun i H3 => Same H2 H3 ∧ ∃ zs : List Addr, zs.length = i ∧ H3 D2 = some (.lst (zs.map V.ref)) ∧ ∀ (j : Nat) (r : Addr), zs[j]? = some r → ZT H3 r (rowV n R j))
        ⟨same_new hD3, [], rfl, upd_same, fun j r e => by cases e⟩ (fun i H3 _ h => .inl (.inl (h.1 _ _ hD2))) (fun i y H4 H3 hi hP hY => ?_) (fun H3 hP => ?_)
      · obtain ⟨rfl, hy⟩ := hY
        obtain ⟨s3, zs, hzl, hD5, hzs⟩ := hP
        rw [List.length_map] at hi
        rw [List.getElem?_map, List.getElem?_eq_getElem hi] at hy
        obtain rfl := Option.some.inj hy
        refine ⟨rfl, tyes ⟨.ref qs[i], rfl, qs[i], _, rfl, .inl (.inl (s3 _ _ (hR i _ (List.getElem?_eq_getElem hi)))), fun r o hr0 ho => ?_⟩⟩
        have hDr : D2 ≠ r := ne_of_none hD5 hr0
        have hD6 : upd H3 r (.frz o (.tup (rowV n R i))) D2 = some (.lst (zs.map V.ref)) := by rw [upd_ne hDr]; exact hD5
        refine ⟨_, hD6, by rw [List.length_map]; exact szl (by omega), fun c u z => ?_, zs ++ [r], by rw [List.length_append, hzl]; rfl, by rw [upd_same, List.map_append]; rfl, fun j r' z => ?_⟩
        · rw [upd_ne (ne_of_none z hD3)]
          exact (s3.trans (same_new hr0)) c u z
        · refine zt_upd ?_ hD6
          by_cases hj : j < zs.length
          · rw [List.getElem?_append_left hj] at z
            exact (hzs j r' z).same (same_new hr0)
          · rw [List.getElem?_append_right (by omega)] at z
            have h0 : j - zs.length = 0 := by
              by_cases h0 : j - zs.length = 0
              · exact h0
              · rw [List.getElem?_eq_none (by simp; omega)] at z
                cases z
            rw [h0] at z
            obtain rfl : r = r' := Option.some.inj z
            have ej : j = i := by omega
            subst ej
            exact ⟨o, upd_same, ho⟩
      · obtain ⟨s3, zs, hzl, hD5, hzs⟩ := hP
        rw [List.length_map, hql] at hzl
        refine ⟨D2, _, rfl, .inl ⟨.inl (.inl hD5), fun a ha0 => q a R _ ((s2.trans s3).trans (same_new ha0)) ⟨zs, hzl, seqT_new, fun j r e => (hzs j r e).same (same_new ha0)⟩ ⟨hp, hinj, fun i j hi hj => (hdone i j hi hj).symm⟩⟩⟩
end
end K38

set_option Elab.async false
set_option linter.all false
set_option maxRecDepth 100000
set_option maxHeartbeats 4000000
/-! E5: _law_named. -/
namespace K38
open PySem PySem.Spec PyProof.Rows L2
theorem scNamed : FnScope ["_law_heap_here", "_law_kind", "_law_one"] ["_law_heap_here", "_law_kind"] (defScope sNamed) := ⟨rfl, rfl, rfl, by decide +kernel, rfl, by decide +kernel, by decide +kernel⟩
/-- a perm as a function -/
theorem perm_fun {n : Nat} {ps : List Nat} (h : ps.Perm (List.range n)) : ∃ p : Nat → Nat, lN ps = (tupF n p).map V.int ∧ (∀ i, i < n → p i < n) ∧ (∀ i j, i < n → j < n → p i = p j → i = j) ∧ ∀ i x, ps[i]? = some x → p i = x := by
  have hl : ps.length = n := by rw [h.length_eq, List.length_range]
  have at' : ∀ i x, ps[i]? = some x → ps.getD i 0 = x := fun i x e => by rw [List.getD_eq_getElem?_getD, e]; rfl
  have has : ∀ i, i < n → ps[i]? = some (ps.getD i 0) := fun i hi => by
    have e : ps[i]? = some (ps[i]'(by omega)) := List.getElem?_eq_getElem (by omega)
    rw [at' i _ e]
    exact e
  refine ⟨fun i => ps.getD i 0, ?_, fun i hi => ?_, fun i j hi hj e => ?_, at'⟩
  · apply List.ext_getElem?
    intro i
    by_cases hi : i < n
    · rw [lN_at (has i hi), List.getElem?_map, tupF_at hi]
      rfl
    · rw [List.getElem?_eq_none (by rw [lN_len]; omega), List.getElem?_eq_none (by rw [List.length_map, tupF_len]; omega)]
  · have := List.mem_of_getElem? (has i hi)
    exact List.mem_range.mp (h.mem_iff.mp this)
  · have nd : ps.Nodup := h.nodup_iff.mpr List.nodup_range
    have h1 := has i hi
    have h2 := has j hj
    have e : ps.getD i 0 = ps.getD j 0 := e
    rw [← e] at h2
    obtain ⟨a1, b1⟩ := List.getElem?_eq_some_iff.mp h1
    obtain ⟨a2, b2⟩ := List.getElem?_eq_some_iff.mp h2
    exact (List.getElem_inj nd).mp (b1.trans b2.symm)
theorem zero_perm {n : Nat} {os : List Nat} (h : os.Perm (List.range n)) : (0 :: os.map (· + 1)).Perm (List.range (n + 1)) := by
  rw [List.range_succ_eq_map]
  exact List.Perm.cons 0 (h.map Nat.succ)
section
variable {P : Program} {w₀ : World} {K : PySem.W.Frag} {mg : Str → Option Value} {base : Heap}
def spNamed (K : PySem.W.Frag) : Sp := fun vs H Q _ => ∃ (h l kd : Addr) (w k : Nat) (s x : Int), vs = [.ref h, .ref kd] ∧ KindAt K H kd w k s x ∧ 0 < w ∧ 0 < k ∧ w ≤ 60 ∧ k ≤ 60 ∧ w * k ≤ 60 ∧ (-1000 ≤ s ∧ s ≤ 1000) ∧ HpAt H h l ∧
  (∀ i j, i < w * k → j < w * k → tabM w k s x i j < w * k) ∧ ∀ a g p H', HpAt H' h l → But h l H H' → TabZ K H' a (w * k) g → Iso (w * k) (tabM w k s x) g p → p 0 = 0 → Q (.ref a) H'
theorem ok_named {fD fO fT fR f : Addr} {fd fdD fdO fdT fdR : FuncData} (B : Bn mg) (DD : Df K mg "_law_draw" sDraw ["_law_heap_here", "_law_many"] fD fdD) (DO : Df K mg "_law_order" sOrder ["_law_heap_here", "_law_many"] fO fdO)
    (DT : Df K mg "_law_table" sTable ["_law_kind"] fT fdT) (DR : Df K mg "_law_renamed" sRenamed ["_law_table_here", "_law_names"] fR fdR) (D : Df K mg "_law_named" sNamed ["_law_heap_here", "_law_kind"] f fd) :
    FnOk P w₀ K mg base CX0 3 f fd ["_law_heap_here", "_law_kind"] (spNamed K) := by
  refine D.F.ok scNamed (fun vs H Q E h => ?_) (fun cdv A outer s H vs Q E hr h => ?_)
  · obtain ⟨h, l, kd, w, k, s, x, rfl, _⟩ := h
    rfl
  · obtain ⟨h, l, kd, w, k, s, x, rfl, hk, hw0, hk0, hw1, hk1, hwk, hs, hx, hm, q⟩ := h
    refine ⟨_, pss_one (ps_ret (pe_call (ok_renamed B DR) (hr.mono (by decide)) (by rfl) DR.g DR.F.kp DR.b .nil pass0 (pa_cons (pe_call (ok_table B DT) (hr.mono (by decide)) (by rfl) DT.g DT.F.kp DT.b .nil pass0 (pa_cons (pv 1) pa_nil))
      (pa_cons (pe_op op_cat (pe_lst (pa_cons pe_int pa_nil)) (pe_lc (own := [("_law_one", 2)]) (g := gName 2) (tt := tYes) rfl scNamed.nd (pi_list (pe_call (ok_order B DD DO) hr (by rfl) DO.g DO.F.kp DO.b .nil pass0 (pa_cons (pv 0) (pa_cons (pe_op op_sub (pe_op op_mul (pe_ix ix_tup (pv 1) pe_int (fun _ _ => rfl)) (pe_ix ix_tup (pv 1) pe_int (fun _ _ => rfl))) pe_int) pa_nil))))
        (blkOk_by (N := ["_law_heap_here", "_law_kind", "_law_one"]) (sc := defScope sNamed) (by decide +kernel))
        (fun _ _ _ _ _ => pg_name (i := 2) scNamed.nd rfl (Or.inl rfl)) (fun _ _ _ _ _ => pts_nil) (fun _ _ _ _ _ => pe_op op_add (pv 2) pe_int))) pa_nil)))), ?_⟩
    obtain ⟨n, hn⟩ : ∃ n, w * k = n + 1 := ⟨w * k - 1, by have : 0 < w * k := Nat.mul_pos hw0 hk0; omega⟩
    refine ⟨.ref kd, rfl, kd, w, k, s, x, rfl, hk, hw0, hk0, by omega, by omega, by omega, hs, fun p H1 s1 hp hT => ?_⟩
    refine ⟨by decide, fun e he => ?_⟩
    have s2 := s1.trans (same_new (o := .lst [V.int 0]) he)
    have hk2 := sameT s2 hk
    refine ⟨.ref h, rfl, .ref kd, rfl, kd, _, 0, .int (w : Nat), rfl, rfl, hk2, atI_nat (j := 0) rfl, .ref kd, rfl, kd, _, 1, .int (k : Nat), rfl, rfl, hk2, atI_nat (j := 1) rfl, w, k, rfl, rfl, .inl ⟨by omega, by omega⟩, _, 1, rfl, rfl, ?_⟩
    have hmul : ((w : Nat) : Int) * ((k : Nat) : Int) - 1 = ((n : Nat) : Int) := by
      rw [← Int.natCast_mul, hn]
      omega
    have hx2 := hx.same s2
    refine ⟨h, l, n, congrArg (fun z => [V.ref h, V.int z]) hmul, by omega, hx2, fun po H3 os hpo hpo3 hperm hx3 hB => ?_⟩
    obtain ⟨is, st, y⟩ := hx
    have yes1 : ∀ c : Addr, H c = none → c ≠ h ∧ c ≠ l := fun c hc => ⟨fun z => (by rw [z, y.at_h] at hc; cases hc), fun z => (by rw [z, y.at_l] at hc; cases hc)⟩
    have he0 : H e = none := s1.free he
    have hT3 : LTK K H3 p (w * k) (tabM w k s x) := by
      obtain ⟨rs, h1, h2, h3⟩ := hT
      refine ⟨rs, h1, .inl (.inl (hB _ _ (same_new he _ _ h2) (yes1 p hp).1 (yes1 p hp).2)), fun i r z => ?_⟩
      obtain ⟨h4, h5⟩ := h3 i r z
      exact .inl (.inl (hB _ _ (same_new he _ _ h5) (yes1 r h4).1 (yes1 r h4).2))
    have he3 : H3 e = some (.lst [V.int 0]) := hB _ _ upd_same (yes1 e he0).1 (yes1 e he0).2
    have hBH : But h l H H3 := (But.of_same s2).trans hB
    have hol : os.length = n := by rw [hperm.length_eq, List.length_range]
    refine ⟨po, rfl, ⟨_, .inl (.inl hpo3)⟩, fun D hD => ?_⟩
    refine lc_it (walk_list (xs := lN os)) (fun i H4 => Same H3 H4 ∧ H4 D = some (.lst (lN ((os.take i).map (· + 1))))) ⟨same_new hD, upd_same⟩ (fun i H4 _ h => .inl (.inl (h.1 _ _ hpo3))) (fun i y H5 H4 hi hP hY => ?_) (fun H4 hP => ?_)
    · obtain ⟨rfl, hy⟩ := hY
      obtain ⟨s4, hD4⟩ := hP
      rw [lN_len] at hi
      have ei : os[i]? = some os[i] := List.getElem?_eq_getElem hi
      rw [lN_at ei] at hy
      obtain rfl := Option.some.inj hy
      refine ⟨rfl, tyes ⟨.int (os[i] : Nat), rfl, (os[i] : Nat), 1, rfl, rfl, _, hD4, ?_, fun c o z => ?_, ?_⟩⟩
      · rw [lN_len, List.length_map, List.length_take]
        exact szl (by omega)
      · rw [upd_ne (ne_of_none z hD)]
        exact s4 c o z
      · rw [upd_same, List.take_add_one, ei]
        unfold lN
        rw [List.map_append, List.map_append]
        rfl
    · obtain ⟨s4, hD4⟩ := hP
      rw [lN_len, List.take_length] at hD4
      refine ⟨e, D, [.int 0], _, rfl, rfl, s4 _ _ he3, hD4, ?_, fun nm hnm => ?_⟩
      · rw [lN_len, List.length_map]
        exact sz (by show 1 + os.length ≤ 100000; omega)
      have eN : [V.int 0] ++ lN (os.map (· + 1)) = lN (0 :: os.map (· + 1)) := rfl
      rw [eN]
      have zp := zero_perm hperm
      rw [← hn] at zp
      obtain ⟨pf, e1, e2, e3, e4⟩ := perm_fun zp
      rw [e1]
      have s5 := s4.trans (same_new (o := .lst ((tupF (w * k) pf).map V.int)) hnm)
      refine ⟨p, nm, w * k, tabM w k s x, pf, rfl, hT3.same s5, .inl (.inl upd_same), by omega, hm, e2, e3, fun a g H6 s6 hZ hI => ?_⟩
      exact q a g pf H6 (hx3.same (s5.trans s6)) (hBH.trans (.of_same (s5.trans s6))) hZ hI (e4 0 0 rfl)
end
end K38

set_option Elab.async false
set_option linter.all false
set_option maxRecDepth 100000
set_option maxHeartbeats 4000000
/-! E6: _law_kinds (printed by gen_kinds.py). -/
namespace K38
open PySem PySem.Spec PyProof.Rows L2
theorem scKinds : FnScope ["_law_heap_here", "_law_pairs", "_law_pair"] ["_law_heap_here"] (defScope sKinds) := ⟨rfl, rfl, rfl, by decide +kernel, rfl, by decide +kernel, by decide +kernel⟩
abbrev Q4 := Nat × Nat × Int × Int
def KindQ (K : PySem.W.Frag) (H : Hp) (a : Addr) (q : Q4) : Prop := KindAt K H a q.1 q.2.1 q.2.2.1 q.2.2.2
def PairV (K : PySem.W.Frag) (H : Hp) (v : V) (q : Q4 × Q4) : Prop := ∃ p a b, v = .ref p ∧ SqT K H p [.ref a, .ref b] ∧ KindQ K H a q.1 ∧ KindQ K H b q.2
section
variable {K : PySem.W.Frag} {H H' : Hp}
theorem KindQ.same {a : Addr} {q : Q4} (h : KindQ K H a q) (e : Same H H') : KindQ K H' a q := sameT e h
theorem PairV.same {v : V} {q : Q4 × Q4} (h : PairV K H v q) (e : Same H H') : PairV K H' v q := by
  obtain ⟨p, a, b, h1, h2, h3, h4⟩ := h
  exact ⟨p, a, b, h1, sameT e h2, h3.same e, h4.same e⟩
theorem PairV.but {h l : Addr} {v : V} {q : Q4 × Q4} (z : PairV K H v q) (x : HpAt H h l) (e : But h l H H') : PairV K H' v q := by
  obtain ⟨p, a, b, h1, h2, h3, h4⟩ := z
  exact ⟨p, a, b, h1, sqT_but h2 x e, sqT_but h3 x e, sqT_but h4 x e⟩
def GivesK (K : PySem.W.Frag) (t : TE) (q : Q4) : Prop := ∀ (σ : L2.St) (H : Hp) (Q : VK), (∀ a H', Same H H' → KindQ K H' a q → Q (.ref a) H') → t σ H Q
def GivesP (K : PySem.W.Frag) (t : TE) (q : Q4 × Q4) : Prop := ∀ (σ : L2.St) (H : Hp) (Q : VK), (∀ v H', Same H H' → PairV K H' v q → Q v H') → t σ H Q
def PairsV (K : PySem.W.Frag) (H : Hp) (vs : List V) (qs : List (Q4 × Q4)) : Prop := vs.length = qs.length ∧ ∀ (i : Nat) (v : V) (q : Q4 × Q4), vs[i]? = some v → qs[i]? = some q → PairV K H v q
def GivesL (K : PySem.W.Frag) (t : TA) (qs : List (Q4 × Q4)) : Prop := ∀ (σ : L2.St) (H : Hp) (Q : List V → Hp → Prop), (∀ vs H', Same H H' → PairsV K H' vs qs → Q vs H') → t σ H Q
theorem PairsV.same {vs : List V} {qs : List (Q4 × Q4)} (h : PairsV K H vs qs) (e : Same H H') : PairsV K H' vs qs := ⟨h.1, fun i v q a b => (h.2 i v q a b).same e⟩
theorem PairsV.app {vs ws : List V} {qs rs : List (Q4 × Q4)} (h : PairsV K H vs qs) (g : PairsV K H ws rs) : PairsV K H (vs ++ ws) (qs ++ rs) := by
  refine ⟨by rw [List.length_append, List.length_append, h.1, g.1], fun i v q a b => ?_⟩
  by_cases hi : i < vs.length
  · rw [List.getElem?_append_left hi] at a
    rw [List.getElem?_append_left (by rw [← h.1]; exact hi)] at b
    exact h.2 i v q a b
  · rw [List.getElem?_append_right (by omega)] at a
    rw [List.getElem?_append_right (by rw [← h.1]; omega), ← h.1] at b
    exact g.2 _ v q a b
theorem PairsV.mem {vs : List V} {qs : List (Q4 × Q4)} (h : PairsV K H vs qs) {v : V} (hv : v ∈ vs) : ∃ q ∈ qs, PairV K H v q := by
  obtain ⟨i, hi⟩ := List.getElem?_of_mem hv
  have hl : i < qs.length := by rw [← h.1]; exact (List.getElem?_eq_some_iff.mp hi).1
  exact ⟨qs[i], List.getElem_mem hl, h.2 i v _ hi (List.getElem?_eq_getElem hl)⟩
theorem givesK_of {t : TA} {w k : Nat} {s x : Int} (h : ∀ (σ : L2.St) (H : Hp) (Q : List V → Hp → Prop), Q [.int (w : Nat), .int (k : Nat), .int s, .int x] H → t σ H Q) : GivesK K (tTup t) (w, k, s, x) := fun σ H Q q =>
  h σ H _ ⟨by show 4 ≤ sizeLine; decide, fun p hp => q p _ (same_new hp) seqT_new⟩
theorem givesK_kd {w k : Nat} {s x : Int} : GivesK K (tTup (tCons (tC (.int (w : Nat))) (tCons (tC (.int (k : Nat))) (tCons (tC (.int s)) (tCons (tC (.int x)) tNil))))) (w, k, s, x) := givesK_of fun σ H Q q => q
theorem givesK_kdN {w k : Nat} {x : Int} : GivesK K (tTup (tCons (tC (.int (w : Nat))) (tCons (tC (.int (k : Nat))) (tCons (tOp (rI0 fun i j => .int (i - j)) (tC (.int 0)) (tC (.int 1))) (tCons (tC (.int x)) tNil))))) (w, k, -1, x) :=
  givesK_of fun σ H Q q => ⟨0, 1, rfl, rfl, q⟩
theorem givesP_pr {t u : TE} {q r : Q4} (h : GivesK K t q) (g : GivesK K u r) : GivesP K (tTup (tCons t (tCons u tNil))) (q, r) := fun σ H Q z =>
  h σ H _ fun a H1 s1 k1 => g σ H1 _ fun b H2 s2 k2 => ⟨by show 2 ≤ sizeLine; decide, fun p hp => z _ _ ((s1.trans s2).trans (same_new hp)) ⟨p, a, b, rfl, seqT_new, (k1.same s2).same (same_new hp), k2.same (same_new hp)⟩⟩
theorem givesL_nil : GivesL K tNil [] := fun σ H Q q => q [] H (Same.refl H) ⟨rfl, fun i v q a => by cases a⟩
theorem givesL_cons {t : TE} {u : TA} {q : Q4 × Q4} {qs : List (Q4 × Q4)} (h : GivesP K t q) (g : GivesL K u qs) : GivesL K (tCons t u) (q :: qs) := fun σ H Q z =>
  h σ H _ fun v H1 s1 p1 => g σ H1 _ fun vs H2 s2 p2 => z _ _ (s1.trans s2) ⟨by rw [List.length_cons, List.length_cons, p2.1], fun i x y a b => by
    cases i with
    | zero =>
      obtain rfl : v = x := Option.some.inj a
      obtain rfl : q = y := Option.some.inj b
      exact p1.same s2
    | succ i => exact p2.2 i x y a b⟩
end
section
variable {X : Cx} {k : Nat} {pos : Pos}
theorem pe_kd {w k' : Nat} {s x : Int} {j1 j2 j3 j4 : Nat} {p1 p2 p3 p4 : Pos} : PE X (.Tuple [.Constant (.int (w : Nat)) j1 p1, .Constant (.int (k' : Nat)) j2 p2, .Constant (.int s) j3 p3, .Constant (.int x) j4 p4] k pos) (tTup (tCons (tC (.int (w : Nat))) (tCons (tC (.int (k' : Nat))) (tCons (tC (.int s)) (tCons (tC (.int x)) tNil))))) :=
  pe_tup (pa_cons pe_int (pa_cons pe_int (pa_cons pe_int (pa_cons pe_int pa_nil))))
theorem pe_kdN {w k' : Nat} {x : Int} {j1 j2 j3 j4 j5 : Nat} {p1 p2 p3 p4 p5 p6 : Pos} : PE X (.Tuple [.Constant (.int (w : Nat)) j1 p1, .Constant (.int (k' : Nat)) j2 p2, .BinOp (.Constant (.int 0) j3 p3) .Sub (.Constant (.int 1) j4 p4) p6, .Constant (.int x) j5 p5] k pos)
    (tTup (tCons (tC (.int (w : Nat))) (tCons (tC (.int (k' : Nat))) (tCons (tOp (rI0 fun i j => .int (i - j)) (tC (.int 0)) (tC (.int 1))) (tCons (tC (.int x)) tNil))))) :=
  pe_tup (pa_cons pe_int (pa_cons pe_int (pa_cons (pe_op op_sub pe_int pe_int) (pa_cons pe_int pa_nil))))
theorem pe_pr {ea eb : List Expr} {ka kb : Nat} {qa qb : Pos} {ta tb : TE} (h : PE X (.Tuple ea ka qa) ta) (g : PE X (.Tuple eb kb qb) tb) : PE X (.Tuple [.Tuple ea ka qa, .Tuple eb kb qb] k pos) (tTup (tCons ta (tCons tb tNil))) := pe_tup (pa_cons h (pa_cons g pa_nil))
end
/-- the lists of pairs, the last pair -/
def valOf : Stmt → Expr
  | .Assign _ (.BinOp _ _ e _) _ => e
  | .Assign _ e _ => e
  | .If _ [.Return (some e) _] _ _ => e
  | _ => .Constant .none 0 ⟨0, 0, 0, 0⟩
def kindE (i : Nat) : Expr := valOf ((defBody sKinds).getD i (.Pass ⟨0, 0, 0, 0⟩))
def GivesLst (K : PySem.W.Frag) (t : TE) (qs : List (Q4 × Q4)) : Prop := ∀ (σ : L2.St) (H : Hp) (Q : VK), (∀ d vs H', Same H H' → H d = none → H' d = some (.lst vs) → PairsV K H' vs qs → Q (.ref d) H') → t σ H Q
theorem givesLst_of {K : PySem.W.Frag} {t : TA} {qs : List (Q4 × Q4)} (h : GivesL K t qs) (hz : qs.length ≤ 1000) : GivesLst K (tLst t) qs := fun σ H Q q =>
  h σ H _ fun vs H1 s1 p1 => ⟨sz (by rw [p1.1]; omega), fun d hd => q d vs _ (s1.trans (same_new hd)) (s1.free hd) upd_same (p1.same (same_new hd))⟩
theorem grp0 {K : PySem.W.Frag} (X : Cx) : ∃ t, PE X (kindE 0) t ∧ GivesLst K t [((4, 1, 1, 0), (2, 2, 1, 0)), ((4, 1, 1, 0), (2, 2, 1, 1)), ((6, 1, 1, 0), (3, 2, 1, 0)), ((6, 1, 1, 0), (3, 2, -1, 0))] := ⟨_, pe_lst (pa_cons (pe_pr (pe_kd (w := 4) (k' := 1) (s := 1) (x := 0)) (pe_kd (w := 2) (k' := 2) (s := 1) (x := 0))) (pa_cons (pe_pr (pe_kd (w := 4) (k' := 1) (s := 1) (x := 0)) (pe_kd (w := 2) (k' := 2) (s := 1) (x := 1))) (pa_cons (pe_pr (pe_kd (w := 6) (k' := 1) (s := 1) (x := 0)) (pe_kd (w := 3) (k' := 2) (s := 1) (x := 0))) (pa_cons (pe_pr (pe_kd (w := 6) (k' := 1) (s := 1) (x := 0)) (pe_kdN (w := 3) (k' := 2) (x := 0))) (pa_nil))))), givesLst_of (givesL_cons (givesP_pr givesK_kd givesK_kd) (givesL_cons (givesP_pr givesK_kd givesK_kd) (givesL_cons (givesP_pr givesK_kd givesK_kd) (givesL_cons (givesP_pr givesK_kd givesK_kdN) (givesL_nil))))) (by decide)⟩
theorem grp1 {K : PySem.W.Frag} (X : Cx) : ∃ t, PE X (kindE 1) t ∧ GivesLst K t [((2, 2, 1, 0), (2, 2, -1, 0)), ((3, 2, -1, 0), (3, 2, -1, 0)), ((3, 2, -1, 0), (3, 2, -1, 0))] := ⟨_, pe_lst (pa_cons (pe_pr (pe_kd (w := 2) (k' := 2) (s := 1) (x := 0)) (pe_kdN (w := 2) (k' := 2) (x := 0))) (pa_cons (pe_pr (pe_kdN (w := 3) (k' := 2) (x := 0)) (pe_kdN (w := 3) (k' := 2) (x := 0))) (pa_cons (pe_pr (pe_kdN (w := 3) (k' := 2) (x := 0)) (pe_kdN (w := 3) (k' := 2) (x := 0))) (pa_nil)))), givesLst_of (givesL_cons (givesP_pr givesK_kd givesK_kdN) (givesL_cons (givesP_pr givesK_kdN givesK_kdN) (givesL_cons (givesP_pr givesK_kdN givesK_kdN) (givesL_nil)))) (by decide)⟩
theorem grp2 {K : PySem.W.Frag} (X : Cx) : ∃ t, PE X (kindE 2) t ∧ GivesLst K t [((1, 1, 1, 0), (1, 1, 1, 0)), ((2, 1, 1, 0), (2, 1, 1, 0)), ((3, 1, 1, 0), (3, 1, 1, 0)), ((5, 1, 1, 0), (5, 1, 1, 0))] := ⟨_, pe_lst (pa_cons (pe_pr (pe_kd (w := 1) (k' := 1) (s := 1) (x := 0)) (pe_kd (w := 1) (k' := 1) (s := 1) (x := 0))) (pa_cons (pe_pr (pe_kd (w := 2) (k' := 1) (s := 1) (x := 0)) (pe_kd (w := 2) (k' := 1) (s := 1) (x := 0))) (pa_cons (pe_pr (pe_kd (w := 3) (k' := 1) (s := 1) (x := 0)) (pe_kd (w := 3) (k' := 1) (s := 1) (x := 0))) (pa_cons (pe_pr (pe_kd (w := 5) (k' := 1) (s := 1) (x := 0)) (pe_kd (w := 5) (k' := 1) (s := 1) (x := 0))) (pa_nil))))), givesLst_of (givesL_cons (givesP_pr givesK_kd givesK_kd) (givesL_cons (givesP_pr givesK_kd givesK_kd) (givesL_cons (givesP_pr givesK_kd givesK_kd) (givesL_cons (givesP_pr givesK_kd givesK_kd) (givesL_nil))))) (by decide)⟩
theorem grp3 {K : PySem.W.Frag} (X : Cx) : ∃ t, PE X (kindE 3) t ∧ GivesLst K t [((4, 2, -1, 0), (4, 2, -1, 2)), ((4, 2, -1, 2), (4, 2, -1, 2)), ((8, 1, 1, 0), (4, 2, 1, 1))] := ⟨_, pe_lst (pa_cons (pe_pr (pe_kdN (w := 4) (k' := 2) (x := 0)) (pe_kdN (w := 4) (k' := 2) (x := 2))) (pa_cons (pe_pr (pe_kdN (w := 4) (k' := 2) (x := 2)) (pe_kdN (w := 4) (k' := 2) (x := 2))) (pa_cons (pe_pr (pe_kd (w := 8) (k' := 1) (s := 1) (x := 0)) (pe_kd (w := 4) (k' := 2) (s := 1) (x := 1))) (pa_nil)))), givesLst_of (givesL_cons (givesP_pr givesK_kdN givesK_kdN) (givesL_cons (givesP_pr givesK_kdN givesK_kdN) (givesL_cons (givesP_pr givesK_kd givesK_kd) (givesL_nil)))) (by decide)⟩
theorem grp4 {K : PySem.W.Frag} (X : Cx) : ∃ t, PE X (kindE 4) t ∧ GivesLst K t [((4, 2, 1, 0), (4, 2, 1, 2)), ((4, 2, 1, 0), (8, 1, 1, 0)), ((4, 2, -1, 0), (4, 2, 1, 0)), ((5, 1, 1, 0), (6, 1, 1, 0))] := ⟨_, pe_lst (pa_cons (pe_pr (pe_kd (w := 4) (k' := 2) (s := 1) (x := 0)) (pe_kd (w := 4) (k' := 2) (s := 1) (x := 2))) (pa_cons (pe_pr (pe_kd (w := 4) (k' := 2) (s := 1) (x := 0)) (pe_kd (w := 8) (k' := 1) (s := 1) (x := 0))) (pa_cons (pe_pr (pe_kdN (w := 4) (k' := 2) (x := 0)) (pe_kd (w := 4) (k' := 2) (s := 1) (x := 0))) (pa_cons (pe_pr (pe_kd (w := 5) (k' := 1) (s := 1) (x := 0)) (pe_kd (w := 6) (k' := 1) (s := 1) (x := 0))) (pa_nil))))), givesLst_of (givesL_cons (givesP_pr givesK_kd givesK_kd) (givesL_cons (givesP_pr givesK_kd givesK_kd) (givesL_cons (givesP_pr givesK_kdN givesK_kd) (givesL_cons (givesP_pr givesK_kd givesK_kd) (givesL_nil))))) (by decide)⟩
theorem grp5 {K : PySem.W.Frag} (X : Cx) : ∃ t, PE X (kindE 5) t ∧ GivesLst K t [((6, 2, -1, 0), (6, 2, -1, 3)), ((6, 1, 1, 0), (6, 1, 1, 0)), ((2, 2, 1, 0), (2, 2, 1, 0))] := ⟨_, pe_lst (pa_cons (pe_pr (pe_kdN (w := 6) (k' := 2) (x := 0)) (pe_kdN (w := 6) (k' := 2) (x := 3))) (pa_cons (pe_pr (pe_kd (w := 6) (k' := 1) (s := 1) (x := 0)) (pe_kd (w := 6) (k' := 1) (s := 1) (x := 0))) (pa_cons (pe_pr (pe_kd (w := 2) (k' := 2) (s := 1) (x := 0)) (pe_kd (w := 2) (k' := 2) (s := 1) (x := 0))) (pa_nil)))), givesLst_of (givesL_cons (givesP_pr givesK_kdN givesK_kdN) (givesL_cons (givesP_pr givesK_kd givesK_kd) (givesL_cons (givesP_pr givesK_kd givesK_kd) (givesL_nil)))) (by decide)⟩
theorem grp6 {K : PySem.W.Frag} (X : Cx) : ∃ t, PE X (kindE 6) t ∧ GivesLst K t [((6, 2, -1, 0), (6, 2, -1, 0)), ((12, 1, 1, 0), (4, 1, 1, 0)), ((7, 1, 1, 0), (7, 1, 1, 0))] := ⟨_, pe_lst (pa_cons (pe_pr (pe_kdN (w := 6) (k' := 2) (x := 0)) (pe_kdN (w := 6) (k' := 2) (x := 0))) (pa_cons (pe_pr (pe_kd (w := 12) (k' := 1) (s := 1) (x := 0)) (pe_kd (w := 4) (k' := 1) (s := 1) (x := 0))) (pa_cons (pe_pr (pe_kd (w := 7) (k' := 1) (s := 1) (x := 0)) (pe_kd (w := 7) (k' := 1) (s := 1) (x := 0))) (pa_nil)))), givesLst_of (givesL_cons (givesP_pr givesK_kdN givesK_kdN) (givesL_cons (givesP_pr givesK_kd givesK_kd) (givesL_cons (givesP_pr givesK_kd givesK_kd) (givesL_nil)))) (by decide)⟩
theorem grpX {K : PySem.W.Frag} (X : Cx) : ∃ t, PE X (kindE 7) t ∧ GivesP K t ((8, 2, 1, 0), (8, 2, 5, 0)) := ⟨_, pe_pr (pe_kd (w := 8) (k' := 2) (s := 1) (x := 0)) (pe_kd (w := 8) (k' := 2) (s := 5) (x := 0)), givesP_pr givesK_kd givesK_kd⟩
def menu : List (Q4 × Q4) := [((4, 1, 1, 0), (2, 2, 1, 0)), ((4, 1, 1, 0), (2, 2, 1, 1)), ((6, 1, 1, 0), (3, 2, 1, 0)), ((6, 1, 1, 0), (3, 2, -1, 0))] ++ [((2, 2, 1, 0), (2, 2, -1, 0)), ((3, 2, -1, 0), (3, 2, -1, 0)), ((3, 2, -1, 0), (3, 2, -1, 0))] ++ [((1, 1, 1, 0), (1, 1, 1, 0)), ((2, 1, 1, 0), (2, 1, 1, 0)), ((3, 1, 1, 0), (3, 1, 1, 0)), ((5, 1, 1, 0), (5, 1, 1, 0))] ++ [((4, 2, -1, 0), (4, 2, -1, 2)), ((4, 2, -1, 2), (4, 2, -1, 2)), ((8, 1, 1, 0), (4, 2, 1, 1))] ++ [((4, 2, 1, 0), (4, 2, 1, 2)), ((4, 2, 1, 0), (8, 1, 1, 0)), ((4, 2, -1, 0), (4, 2, 1, 0)), ((5, 1, 1, 0), (6, 1, 1, 0))] ++ [((6, 2, -1, 0), (6, 2, -1, 3)), ((6, 1, 1, 0), (6, 1, 1, 0)), ((2, 2, 1, 0), (2, 2, 1, 0))] ++ [((6, 2, -1, 0), (6, 2, -1, 0)), ((12, 1, 1, 0), (4, 1, 1, 0)), ((7, 1, 1, 0), (7, 1, 1, 0))]
def menuAll : List (Q4 × Q4) := (((8, 2, 1, 0), (8, 2, 5, 0)) :: menu) ++ menu.map fun p => (p.2, p.1)
section
variable {P : Program} {w₀ : World} {K : PySem.W.Frag} {mg : Str → Option Value} {base : Heap}
def spKinds (K : PySem.W.Frag) : Sp := fun vs H Q _ => ∃ (h l : Addr), vs = [.ref h] ∧ HpAt H h l ∧ ∀ v H' q, HpAt H' h l → But h l H H' → PairV K H' v q → q ∈ menuAll → Q v H'
theorem ok_kinds {fD fP f : Addr} {fd fdD fdP : FuncData} (B : Bn mg) (DD : Df K mg "_law_draw" sDraw ["_law_heap_here", "_law_many"] fD fdD) (DP : Df K mg "_law_pick" sPick ["_law_heap_here", "_law_some"] fP fdP)
    (D : Df K mg "_law_kinds" sKinds ["_law_heap_here"] f fd) : FnOk P w₀ K mg base CX0 3 f fd ["_law_heap_here"] (spKinds K) := by
  refine D.F.ok scKinds (fun vs H Q E h => ?_) (fun cdv A outer s H vs Q E hr h => ?_)
  · obtain ⟨h, l, rfl, _⟩ := h
    rfl
  · obtain ⟨h, l, rfl, hx, q⟩ := h
    obtain ⟨t0', l0, g0⟩ := grp0 (K := K) (cxOf CX0 P w₀ K mg base ["_law_heap_here", "_law_pairs", "_law_pair"] "_law_kinds" (defScope sKinds) f cdv A outer s H E).nox
    obtain ⟨t1', l1, g1⟩ := grp1 (K := K) (cxOf CX0 P w₀ K mg base ["_law_heap_here", "_law_pairs", "_law_pair"] "_law_kinds" (defScope sKinds) f cdv A outer s H E).nox
    obtain ⟨t2', l2, g2⟩ := grp2 (K := K) (cxOf CX0 P w₀ K mg base ["_law_heap_here", "_law_pairs", "_law_pair"] "_law_kinds" (defScope sKinds) f cdv A outer s H E).nox
    obtain ⟨t3', l3, g3⟩ := grp3 (K := K) (cxOf CX0 P w₀ K mg base ["_law_heap_here", "_law_pairs", "_law_pair"] "_law_kinds" (defScope sKinds) f cdv A outer s H E).nox
    obtain ⟨t4', l4, g4⟩ := grp4 (K := K) (cxOf CX0 P w₀ K mg base ["_law_heap_here", "_law_pairs", "_law_pair"] "_law_kinds" (defScope sKinds) f cdv A outer s H E).nox
    obtain ⟨t5', l5, g5⟩ := grp5 (K := K) (cxOf CX0 P w₀ K mg base ["_law_heap_here", "_law_pairs", "_law_pair"] "_law_kinds" (defScope sKinds) f cdv A outer s H E).nox
    obtain ⟨t6', l6, g6⟩ := grp6 (K := K) (cxOf CX0 P w₀ K mg base ["_law_heap_here", "_law_pairs", "_law_pair"] "_law_kinds" (defScope sKinds) f cdv A outer s H E).nox
    obtain ⟨tX', lX, gX⟩ := grpX (K := K) (cxOf CX0 P w₀ K mg base ["_law_heap_here", "_law_pairs", "_law_pair"] "_law_kinds" (defScope sKinds) f cdv A outer s H E).nox
    refine ⟨_, pss_cons (ps_set (i := 1) scKinds.nd rfl (Or.inl rfl) l0)
      (pss_cons (ps_set (i := 1) scKinds.nd rfl (Or.inl rfl) (pe_op op_cat (pv 1) l1))
      (pss_cons (ps_set (i := 1) scKinds.nd rfl (Or.inl rfl) (pe_op op_cat (pv 1) l2))
      (pss_cons (ps_set (i := 1) scKinds.nd rfl (Or.inl rfl) (pe_op op_cat (pv 1) l3))
      (pss_cons (ps_set (i := 1) scKinds.nd rfl (Or.inl rfl) (pe_op op_cat (pv 1) l4))
      (pss_cons (ps_set (i := 1) scKinds.nd rfl (Or.inl rfl) (pe_op op_cat (pv 1) l5))
      (pss_cons (ps_set (i := 1) scKinds.nd rfl (Or.inl rfl) (pe_op op_cat (pv 1) l6))
      (pss_cons (ps_if (pt_cmpR op_eq (pe_call (ok_draw B DD) (hr.mono (by decide)) (by rfl) DD.g DD.F.kp DD.b .nil pass0 (pa_cons (pv 0) (pa_cons pe_int pa_nil))) pe_int (nomark _)) (pss_one (ps_ret lX)) pss_nil)
      (pss_cons (ps_set (i := 2) scKinds.nd rfl (Or.inl rfl) (pe_call (ok_pick B DD DP) hr (by rfl) DP.g DP.F.kp DP.b .nil pass0 (pa_cons (pv 0) (pa_cons (pv 1) pa_nil))))
      (pss_one (ps_ret (pe_ifExp (pt_cmpR op_eq (pe_call (ok_draw B DD) (hr.mono (by decide)) (by rfl) DD.g DD.F.kp DD.b .nil pass0 (pa_cons (pv 0) (pa_cons pe_int pa_nil))) pe_int (nomark _)) (pe_revP (pv 2)) (pv 2)))))))))))), ?_⟩
    obtain ⟨is, st, y⟩ := hx
    have yes1 : ∀ {c : Addr}, H c = none → c ≠ h ∧ c ≠ l := fun {c} hc => ⟨fun z => (by rw [z, y.at_h] at hc; cases hc), fun z => (by rw [z, y.at_l] at hc; cases hc)⟩
    refine g0 _ _ _ fun d0 vs0 G0 t0 n0 e0 p0 => ?_
    refine ⟨.ref d0, rfl, g1 _ _ _ fun f1 ws1 J1 u1 k1 c1 r1 => ?_⟩
    have p1 := (p0.same u1).app r1
    refine ⟨d0, f1, vs0, ws1, rfl, rfl, u1 _ _ e0, c1, sz (by have := p1.1; rw [List.length_append] at this; rw [this]; decide), fun d1 hd1 => ?_⟩
    generalize vs0 ++ ws1 = vs1 at *
    have t1 := t0.trans (u1.trans (same_new (o := .lst vs1) hd1))
    replace p1 := p1.same (same_new (o := .lst vs1) hd1)
    have e1 : upd J1 d1 (.lst vs1) d1 = some (.lst vs1) := upd_same
    have n1 : H d1 = none := (t0.trans u1).free hd1
    generalize upd J1 d1 (.lst vs1) = G1 at *
    clear hd1 p0 r1 c1 e0 u1 k1
    refine ⟨.ref d1, rfl, g2 _ _ _ fun f2 ws2 J2 u2 k2 c2 r2 => ?_⟩
    have p2 := (p1.same u2).app r2
    refine ⟨d1, f2, vs1, ws2, rfl, rfl, u2 _ _ e1, c2, sz (by have := p2.1; rw [List.length_append] at this; rw [this]; decide), fun d2 hd2 => ?_⟩
    generalize vs1 ++ ws2 = vs2 at *
    have t2 := t1.trans (u2.trans (same_new (o := .lst vs2) hd2))
    replace p2 := p2.same (same_new (o := .lst vs2) hd2)
    have e2 : upd J2 d2 (.lst vs2) d2 = some (.lst vs2) := upd_same
    have n2 : H d2 = none := (t1.trans u2).free hd2
    generalize upd J2 d2 (.lst vs2) = G2 at *
    clear hd2 p1 r2 c2 e1 u2 k2
    refine ⟨.ref d2, rfl, g3 _ _ _ fun f3 ws3 J3 u3 k3 c3 r3 => ?_⟩
    have p3 := (p2.same u3).app r3
    refine ⟨d2, f3, vs2, ws3, rfl, rfl, u3 _ _ e2, c3, sz (by have := p3.1; rw [List.length_append] at this; rw [this]; decide), fun d3 hd3 => ?_⟩
    generalize vs2 ++ ws3 = vs3 at *
    have t3 := t2.trans (u3.trans (same_new (o := .lst vs3) hd3))
    replace p3 := p3.same (same_new (o := .lst vs3) hd3)
    have e3 : upd J3 d3 (.lst vs3) d3 = some (.lst vs3) := upd_same
    have n3 : H d3 = none := (t2.trans u3).free hd3
    generalize upd J3 d3 (.lst vs3) = G3 at *
    clear hd3 p2 r3 c3 e2 u3 k3
    refine ⟨.ref d3, rfl, g4 _ _ _ fun f4 ws4 J4 u4 k4 c4 r4 => ?_⟩
    have p4 := (p3.same u4).app r4
    refine ⟨d3, f4, vs3, ws4, rfl, rfl, u4 _ _ e3, c4, sz (by have := p4.1; rw [List.length_append] at this; rw [this]; decide), fun d4 hd4 => ?_⟩
    generalize vs3 ++ ws4 = vs4 at *
    have t4 := t3.trans (u4.trans (same_new (o := .lst vs4) hd4))
    replace p4 := p4.same (same_new (o := .lst vs4) hd4)
    have e4 : upd J4 d4 (.lst vs4) d4 = some (.lst vs4) := upd_same
    have n4 : H d4 = none := (t3.trans u4).free hd4
    generalize upd J4 d4 (.lst vs4) = G4 at *
    clear hd4 p3 r4 c4 e3 u4 k4
    refine ⟨.ref d4, rfl, g5 _ _ _ fun f5 ws5 J5 u5 k5 c5 r5 => ?_⟩
    have p5 := (p4.same u5).app r5
    refine ⟨d4, f5, vs4, ws5, rfl, rfl, u5 _ _ e4, c5, sz (by have := p5.1; rw [List.length_append] at this; rw [this]; decide), fun d5 hd5 => ?_⟩
    generalize vs4 ++ ws5 = vs5 at *
    have t5 := t4.trans (u5.trans (same_new (o := .lst vs5) hd5))
    replace p5 := p5.same (same_new (o := .lst vs5) hd5)
    have e5 : upd J5 d5 (.lst vs5) d5 = some (.lst vs5) := upd_same
    have n5 : H d5 = none := (t4.trans u5).free hd5
    generalize upd J5 d5 (.lst vs5) = G5 at *
    clear hd5 p4 r5 c5 e4 u5 k5
    refine ⟨.ref d5, rfl, g6 _ _ _ fun f6 ws6 J6 u6 k6 c6 r6 => ?_⟩
    have p6 := (p5.same u6).app r6
    refine ⟨d5, f6, vs5, ws6, rfl, rfl, u6 _ _ e5, c6, sz (by have := p6.1; rw [List.length_append] at this; rw [this]; decide), fun d6 hd6 => ?_⟩
    generalize vs5 ++ ws6 = vs6 at *
    have t6 := t5.trans (u6.trans (same_new (o := .lst vs6) hd6))
    replace p6 := p6.same (same_new (o := .lst vs6) hd6)
    have e6 : upd J6 d6 (.lst vs6) d6 = some (.lst vs6) := upd_same
    have n6 : H d6 = none := (t5.trans u6).free hd6
    generalize upd J6 d6 (.lst vs6) = G6 at *
    clear hd6 p5 r6 c6 e5 u6 k6
    have yL := yes1 n6
    have hx : HpAt G6 h l := ⟨is, st, y.same t6⟩
    refine ⟨.ref h, rfl, h, l, 24, rfl, by decide, by decide, hx, fun r H2 hr2 hx2 hB2 => ⟨rfl, _, rfl, ite2 (fun _ => ?_) (fun _ => ?_)⟩⟩
    · refine gX _ _ _ fun v H3 s3 pv3 => q v H3 _ (hx2.same s3) (((But.of_same t6).trans hB2).trans (.of_same s3)) pv3 List.mem_cons_self
    · have hlist := hB2 _ _ e6 yL.1 yL.2
      have hvl : vs6.length = 24 := p6.1
      refine ⟨.ref h, rfl, .ref d6, rfl, h, l, d6, vs6, rfl, .inl (.inl hlist), yL.1, yL.2, by omega, by omega, hx2, fun v H3 hv hx3 hB3 => ?_⟩
      obtain ⟨qq, hqm, hpv⟩ := p6.mem hv
      have hpv := (hpv.but hx hB2).but hx2 hB3
      have hB := ((But.of_same t6).trans hB2).trans hB3
      refine ⟨.ref h, rfl, h, l, 2, rfl, by decide, by decide, hx3, fun r4 H4 hr4 hx4 hB4 => ⟨rfl, _, rfl, ite2 (fun _ => ?_) (fun _ => ?_)⟩⟩
      · obtain ⟨p, a, b, rfl, h2, h3, h4⟩ := hpv.but hx3 hB4
        refine ⟨.ref p, rfl, p, .ref a, .ref b, rfl, h2, fun p2 hp2 => q _ _ (qq.2, qq.1) (hx4.same (same_new hp2)) ((hB.trans hB4).trans (.of_same (same_new hp2))) ⟨p2, b, a, rfl, seqT_new, h4.same (same_new hp2), h3.same (same_new hp2)⟩ ?_⟩
        exact List.mem_append_right _ (List.mem_map.mpr ⟨qq, hqm, rfl⟩)
      · exact ⟨v, rfl, q v H4 qq hx4 (hB.trans hB4) (hpv.but hx3 hB4) (List.mem_append_left _ (List.mem_cons_of_mem _ hqm))⟩
end
end K38


set_option Elab.async false
set_option linter.all false
set_option maxRecDepth 100000
set_option maxHeartbeats 4000000
/-! E7: _law_orders, _law_commutes. -/
namespace K38
open PySem PySem.Spec PyProof.Rows L2
theorem scLOrders : FnScope ["_law_table_here", "_law_found", "_law_one", "_law_many", "_law_here", "_law_turn"] ["_law_table_here"] (defScope sLOrders) := ⟨rfl, rfl, rfl, by decide +kernel, rfl, by decide +kernel, by decide +kernel⟩
theorem scCommutes : FnScope ["_law_table_here", "_law_one", "_law_two"] ["_law_table_here"] (defScope sCommutes) := ⟨rfl, rfl, rfl, by decide +kernel, rfl, by decide +kernel, by decide +kernel⟩
theorem ne_yes' {i j : Nat} (h : (!decide (V.int (i : Nat) = V.int (j : Nat))) = true) : i ≠ j := fun e => by
  subst e
  rw [decide_eq_true rfl] at h
  cases h
theorem ne_no' {i j : Nat} (h : ¬ (!decide (V.int (i : Nat) = V.int (j : Nat))) = true) : i = j := by
  by_cases e : i = j
  · exact e
  · exfalso
    apply h
    have z : decide (V.int (i : Nat) = V.int (j : Nat)) = false := decide_eq_false fun z => e (Int.ofNat.inj (V.int.inj z))
    rw [z]
    rfl
section
variable {P : Program} {w₀ : World} {K : PySem.W.Frag} {mg : Str → Option Value} {base : Heap}
def spLOrders (K : PySem.W.Frag) : Sp := fun vs H Q _ => ∃ (a : Addr) (n : Nat) (m : Nat → Nat → Nat), vs = [.ref a] ∧ TabAt K H a n m ∧ Grp n m ∧ n ≤ 1000 ∧ ∀ p H', Same H H' → H p = none → H' p = some (.lst ((ods n m).map V.int)) → Q (.ref p) H'
theorem ok_lorders {f : Addr} {fd : FuncData} (B : Bn mg) (D : Df K mg "_law_orders" sLOrders ["_law_table_here"] f fd) : FnOk P w₀ K mg base CX0 1 f fd ["_law_table_here"] (spLOrders K) := by
  refine D.F.ok scLOrders (fun vs H Q E h => ?_) (fun cdv A outer s H vs Q E hr h => ?_)
  · obtain ⟨a, n, m, rfl, _⟩ := h
    rfl
  · obtain ⟨a, n, m, rfl, ht, G, hz, q⟩ := h
    refine ⟨_, pss_cons (ps_set (i := 1) scLOrders.nd rfl (Or.inl rfl) (pe_lst pa_nil))
      (pss_cons (ps_for PassesOwn.never rfl (pi_range1 (by rfl) B.range (pa_cons (pe_callB call_len_seq (by rfl) B.len b_len (pa_cons (pv 0) pa_nil)) pa_nil)) (pg_name (i := 2) scLOrders.nd rfl (Or.inl rfl))
        (pss_cons (ps_par (i := 3) (j := 4) rfl scLOrders.nd rfl rfl (by decide) rfl rfl (pa_cons pe_int (pa_cons (pv 2) pa_nil)) (by rfl))
        (pss_cons (ps_for PassesOwn.never rfl (pi_range1 (by rfl) B.range (pa_cons (pe_callB call_len_seq (by rfl) B.len b_len (pa_cons (pv 0) pa_nil)) pa_nil)) (pg_name (i := 5) scLOrders.nd rfl (Or.inl rfl))
          (pss_one (ps_if (pt_cmpR op_ne (pv 4) pe_int (nomark _)) (pss_one (ps_par (i := 3) (j := 4) rfl scLOrders.nd rfl rfl (by decide) rfl rfl (pa_cons (pe_op op_add (pv 3) pe_int) (pa_cons (pe_ix ix_tup (pe_ix ix_tup (pv 0) (pv 2) (fun _ _ => rfl)) (pv 4) (fun _ _ => rfl)) pa_nil)) (by rfl))) pss_nil)))
        (pss_one (ps_expr (pe_bm PySem.F.plainAttrs_list PySem.F.slot_list_append PySem.F.type_list_append mt_append (pv 1) (pa_cons (pv 3) pa_nil)))))))
      (pss_one (ps_ret (pv 1)))), ?_⟩
    obtain ⟨xa, ha1, ha2⟩ := ht.len
    refine ⟨by decide, fun p hp => ?_⟩
    have s0 := same_new (o := .lst []) hp
    refine ⟨.ref a, rfl, a, xa, rfl, .inr (sameT s0 ha1), (n : Nat), by rw [ha2], by omega, by omega, ?_⟩
    rw [Int.toNat_natCast]
    refine for_it (walk_range0 (n := n)) (fun i σ H1 => ∃ x2 x3 x4 x5, σ = [some (.ref a), some (.ref p), x2, x3, x4, x5] ∧ Same H H1 ∧ H1 p = some (.lst (((List.range i).map fun x => (od n m x : Int)).map V.int))) ⟨_, _, _, _, rfl, s0, upd_same⟩ (fun _ _ _ _ _ => trivial) (fun i y σ H2 H1 hi hP hY => ?_) (fun σ H1 hP => ?_)
    · obtain ⟨rfl, rfl⟩ := hY
      obtain ⟨x2, x3, x4, x5, rfl, s1, hp1⟩ := hP
      obtain ⟨hle, ho⟩ := G.od_is hi
      refine ⟨.int (i : Nat), rfl, _, _, rfl, ?_⟩
      refine ⟨.ref a, rfl, a, xa, rfl, .inr (sameT s1 ha1), (n : Nat), by rw [ha2], by omega, by omega, ?_⟩
      rw [Int.toNat_natCast]
      refine for_it (walk_range0 (n := n)) (fun j σ H2 => H2 = H1 ∧ ∃ t x5, 1 ≤ t ∧ t ≤ od n m i ∧ (t = od n m i ∨ t = j + 1) ∧ σ = [some (.ref a), some (.ref p), some (.int (i : Nat)), some (.int (t : Nat)), some (.int (pw m i t : Nat)), x5]) ⟨rfl, 1, _, Nat.le_refl _, ho.1, .inr rfl, by rw [G.pw_one hi]; rfl⟩ (fun _ _ _ _ _ => trivial) (fun j y σ H3 H2 hj hP hY => ?_) (fun σ H2 hP => ?_)
      · obtain ⟨rfl, rfl⟩ := hY
        obtain ⟨rfl, t, x5, h1, h2, h3, rfl⟩ := hP
        refine ⟨.int (pw m i t : Nat), rfl, rfl, _, rfl, ite2 (fun e => ?_) (fun e => ?_)⟩
        · have e : pw m i t ≠ 0 := ne_yes' (j := 0) e
          have hlt : t < od n m i := Nat.lt_of_le_of_ne h2 fun z => e (z ▸ ho.2.1)
          refine ⟨.int (t : Nat), rfl, _, 1, rfl, rfl, ?_⟩
          refine ix_tab (i := i) (j := pw m i t) (ht.same s1) hi (G.pw_lt hi t) (fun Q q => ⟨_, rfl, q⟩) (fun Q q => ⟨_, rfl, q⟩) (fun Q q => ⟨_, rfl, q⟩) ?_
          refine ⟨_, _, rfl, rfl, t + 1, some (.int (j : Nat)), by omega, by omega, by omega, ?_⟩
          rw [G.pw_left hi]
          rfl
        · have e : pw m i t = 0 := ne_no' (j := 0) e
          have : t = od n m i := (G.od_eq hi ⟨h1, e, fun j hj hjt => ho.2.2 j hj (by omega)⟩).symm
          exact ⟨rfl, t, _, h1, h2, .inl this, rfl⟩
      · obtain ⟨rfl, t, x5, h1, h2, h3, rfl⟩ := hP
        have ht : t = od n m i := by omega
        subst ht
        refine ⟨.ref p, rfl, .inl ⟨rfl, _, .inl (.inl hp1)⟩, .int (od n m i : Nat), rfl, p, _, .int (od n m i : Nat), rfl, rfl, hp1, ?_, ?_⟩
        · rw [List.length_map, List.length_map, List.length_range]
          exact szl (by omega)
        · refine ⟨_, _, _, _, rfl, fun c o z => ?_, ?_⟩
          · rw [upd_ne (ne_of_none z hp)]
            exact s1 c o z
          · rw [upd_same, List.range_succ, List.map_append, List.map_append]
            rfl
    · obtain ⟨x2, x3, x4, x5, rfl, s1, hp1⟩ := hP
      exact ⟨.ref p, rfl, q p H1 s1 hp hp1⟩
def spCommutes (K : PySem.W.Frag) : Sp := fun vs H Q _ => ∃ (a : Addr) (n : Nat) (m : Nat → Nat → Nat), vs = [.ref a] ∧ TabAt K H a n m ∧ n ≤ 1000 ∧ ∀ c, (c = true ↔ Comm n m) → Q (.bl c) H
theorem ok_commutes {f : Addr} {fd : FuncData} (B : Bn mg) (D : Df K mg "_law_commutes" sCommutes ["_law_table_here"] f fd) : FnOk P w₀ K mg base CX0 1 f fd ["_law_table_here"] (spCommutes K) := by
  refine D.F.ok scCommutes (fun vs H Q E h => ?_) (fun cdv A outer s H vs Q E hr h => ?_)
  · obtain ⟨a, n, m, rfl, _⟩ := h
    rfl
  · obtain ⟨a, n, m, rfl, ht, hz, q⟩ := h
    refine ⟨_, pss_cons (ps_for PassesOwn.never rfl (pi_range1 (by rfl) B.range (pa_cons (pe_callB call_len_seq (by rfl) B.len b_len (pa_cons (pv 0) pa_nil)) pa_nil)) (pg_name (i := 1) scCommutes.nd rfl (Or.inl rfl))
        (pss_one (ps_for PassesOwn.never rfl (pi_range1 (by rfl) B.range (pa_cons (pv 1) pa_nil)) (pg_name (i := 2) scCommutes.nd rfl (Or.inl rfl))
          (pss_one (ps_if (pt_cmpR op_ne (pe_ix ix_tup (pe_ix ix_tup (pv 0) (pv 1) (fun _ _ => rfl)) (pv 2) (fun _ _ => rfl)) (pe_ix ix_tup (pe_ix ix_tup (pv 0) (pv 2) (fun _ _ => rfl)) (pv 1) (fun _ _ => rfl)) (nomark _)) (pss_one (ps_ret pe_bl)) pss_nil)))))
      (pss_one (ps_ret pe_bl)), ?_⟩
    obtain ⟨xa, ha1, ha2⟩ := ht.len
    refine ⟨.ref a, rfl, a, xa, rfl, .inr ha1, (n : Nat), by rw [ha2], by omega, by omega, ?_⟩
    rw [Int.toNat_natCast]
    refine for_it (walk_range0 (n := n)) (fun i σ H1 => H1 = H ∧ (∃ x1 x2, σ = [some (.ref a), x1, x2]) ∧ ∀ i' j, i' < i → j < i' → m i' j = m j i') ⟨rfl, ⟨_, _, rfl⟩, fun i' j h => absurd h (by omega)⟩ (fun _ _ _ _ _ => trivial) (fun i y σ H2 H1 hi hP hY => ?_) (fun σ H1 hP => ?_)
    · obtain ⟨rfl, rfl⟩ := hY
      obtain ⟨rfl, ⟨x1, x2, rfl⟩, hd⟩ := hP
      refine ⟨.int (i : Nat), rfl, (i : Nat), rfl, by omega, by omega, ?_⟩
      rw [Int.toNat_natCast]
      refine for_it (walk_range0 (n := i)) (fun j σ H3 => H3 = H1 ∧ (∃ x2, σ = [some (.ref a), some (.int (i : Nat)), x2]) ∧ ∀ j', j' < j → m i j' = m j' i) ⟨rfl, ⟨_, rfl⟩, fun j' h => absurd h (by omega)⟩ (fun _ _ _ _ _ => trivial) (fun j y σ H4 H3 hj hP hY => ?_) (fun σ H3 hP => ?_)
      · obtain ⟨rfl, rfl⟩ := hY
        obtain ⟨rfl, ⟨x2, rfl⟩, hd2⟩ := hP
        refine ix_tab (i := i) (j := j) ht hi (by omega) (fun Q q => ⟨_, rfl, q⟩) (fun Q q => ⟨_, rfl, q⟩) (fun Q q => ⟨_, rfl, q⟩) ?_
        refine ix_tab (i := j) (j := i) ht (by omega) hi (fun Q q => ⟨_, rfl, q⟩) (fun Q q => ⟨_, rfl, q⟩) (fun Q q => ⟨_, rfl, q⟩) ⟨rfl, _, rfl, ite2 (fun e => ?_) (fun e => ?_)⟩
        · exact q false ⟨fun z => Bool.noConfusion z, fun z => absurd (z i j hi (by omega)) (ne_yes' e)⟩
        · have e := ne_no' e
          refine ⟨rfl, ⟨_, rfl⟩, fun j' hj' => ?_⟩
          rcases Nat.lt_or_eq_of_le (Nat.le_of_lt_succ hj') with z | z
          · exact hd2 j' z
          · rw [z]; exact e
      · obtain ⟨rfl, ⟨x2, rfl⟩, hd2⟩ := hP
        refine ⟨rfl, ⟨_, _, rfl⟩, fun i' j hi' hj => ?_⟩
        rcases Nat.lt_or_eq_of_le (Nat.le_of_lt_succ hi') with z | z
        · exact hd i' j z hj
        · subst z; exact hd2 j hj
    · obtain ⟨rfl, ⟨x1, x2, rfl⟩, hd⟩ := hP
      refine q true ⟨fun _ i j hi hj => ?_, fun _ => rfl⟩
      rcases Nat.lt_trichotomy i j with z | z | z
      · exact (hd j i hj z).symm
      · rw [z]
      · exact hd i j hi z
end
end K38

set_option linter.all false
/-! M3: the rows that `_law_first` tries, plainly. -/
namespace K38
def stepR (n : Nat) (r : List Nat) : List (List Nat) := ((List.range n).filter fun x => decide (x ∉ r)).map fun x => r ++ [x]
def rowsN (n : Nat) : Nat → List (List Nat)
  | 0 => [[0]]
  | k + 1 => (rowsN n k).flatMap (stepR n)
def LL (r r' : List Nat) : Prop := ∃ k a b : Nat, r[k]? = some a ∧ r'[k]? = some b ∧ a < b ∧ ∀ i, i < k → r[i]? = r'[i]?
theorem LL.app {r r' s s' : List Nat} (h : LL r r') : LL (r ++ s) (r' ++ s') := by
  obtain ⟨k, a, b, h1, h2, h3, h4⟩ := h
  have l1 := (List.getElem?_eq_some_iff.mp h1).1
  have l2 := (List.getElem?_eq_some_iff.mp h2).1
  refine ⟨k, a, b, by rw [List.getElem?_append_left l1]; exact h1, by rw [List.getElem?_append_left l2]; exact h2, h3, fun i hi => ?_⟩
  rw [List.getElem?_append_left (by omega), List.getElem?_append_left (by omega)]
  exact h4 i hi
theorem LL.snoc {r : List Nat} {x y : Nat} (h : x < y) : LL (r ++ [x]) (r ++ [y]) :=
  ⟨r.length, x, y, by simp, by simp, h, fun i hi => by rw [List.getElem?_append_left hi, List.getElem?_append_left hi]⟩
theorem rowsN_len {n : Nat} : ∀ k, ∀ s ∈ rowsN n k, s.length = k + 1
  | 0, s, h => by
    have : s = [0] := by simpa [rowsN] using h
    rw [this]; rfl
  | k + 1, s, h => by
    obtain ⟨r, hr, hs⟩ := List.mem_flatMap.mp h
    obtain ⟨x, _, rfl⟩ := List.mem_map.mp hs
    rw [List.length_append, rowsN_len k r hr]
    rfl
theorem rowsN_has {n : Nat} : ∀ k (s : List Nat), s.length = k + 1 → s.Nodup → s[0]? = some 0 → (∀ x ∈ s, x < n) → s ∈ rowsN n k
  | 0, s, hl, _, h0, _ => by
    match s, hl with
    | [x], _ =>
      have : x = 0 := Option.some.inj h0
      rw [this]
      exact List.mem_singleton.mpr rfl
  | k + 1, s, hl, nd, h0, hx => by
    have hne : s ≠ [] := fun e => by rw [e] at hl; cases hl
    have e := List.dropLast_concat_getLast hne
    have hl2 : s.dropLast.length = k + 1 := by rw [List.length_dropLast]; omega
    rw [← e] at nd h0 hx ⊢
    rw [List.nodup_append] at nd
    refine List.mem_flatMap.mpr ⟨s.dropLast, rowsN_has k _ hl2 nd.1 ?_ fun x h => hx x (List.mem_append_left _ h), List.mem_map.mpr ⟨s.getLast hne, ?_, rfl⟩⟩
    · rw [List.getElem?_append_left (by omega)] at h0
      exact h0
    · refine List.mem_filter.mpr ⟨List.mem_range.mpr (hx _ (List.mem_append_right _ (List.mem_singleton.mpr rfl))), decide_eq_true fun z => ?_⟩
      exact nd.2.2 _ z _ (List.mem_singleton.mpr rfl) rfl
theorem rowsN_sorted {n : Nat} : ∀ k, (rowsN n k).Pairwise LL
  | 0 => List.pairwise_singleton _ _
  | k + 1 => by
    show ((rowsN n k).flatMap (stepR n)).Pairwise LL
    rw [List.pairwise_flatMap]
    refine ⟨fun r _ => ?_, (rowsN_sorted k).imp fun h x hx y hy => ?_⟩
    · unfold stepR
      rw [List.pairwise_map]
      exact (List.Pairwise.filter _ (List.pairwise_lt_range (n := n))).imp fun h => LL.snoc h
    · obtain ⟨a, _, rfl⟩ := List.mem_map.mp hx
      obtain ⟨b, _, rfl⟩ := List.mem_map.mp hy
      exact h.app
theorem stepR_len {n : Nat} (r : List Nat) : (stepR n r).length ≤ n := by
  unfold stepR
  rw [List.length_map]
  have := List.length_filter_le (fun x => decide (x ∉ r)) (List.range n)
  rw [List.length_range] at this
  exact this
theorem flat_len {n : Nat} : ∀ S : List (List Nat), (S.flatMap (stepR n)).length ≤ S.length * n
  | [] => by simp
  | r :: S => by
    rw [List.flatMap_cons, List.length_append, List.length_cons, Nat.succ_mul]
    have := stepR_len (n := n) r
    have := flat_len (n := n) S
    omega
theorem rowsN_size {n : Nat} (hn : n ≤ 6) : ∀ k, (rowsN n k).length ≤ 6 ^ k
  | 0 => Nat.le_refl 1
  | k + 1 => by
    have h1 := flat_len (n := n) (rowsN n k)
    have h2 := rowsN_size hn k
    have h3 : (rowsN n k).length * n ≤ 6 ^ k * 6 := Nat.mul_le_mul h2 hn
    rw [Nat.pow_succ]
    exact Nat.le_trans h1 h3
theorem rows_at {n i : Nat} {f : Nat → Nat} (hi : i < n) : ((List.range n).map f)[i]? = some (f i) := by
  rw [List.getElem?_map, List.getElem?_range hi]
  rfl
theorem LL.lex {n : Nat} {f f' : Nat → Nat} (h : LL ((List.range n).map f) ((List.range n).map f')) : LexLt n f f' := by
  obtain ⟨k, a, b, h1, h2, h3, h4⟩ := h
  have hk : k < n := by
    have := (List.getElem?_eq_some_iff.mp h1).1
    rw [List.length_map, List.length_range] at this
    exact this
  rw [rows_at hk] at h1 h2
  have h1 := Option.some.inj h1
  have h2 := Option.some.inj h2
  refine ⟨k, hk, fun i hi => ?_, by omega⟩
  have := h4 i hi
  rw [rows_at (by omega), rows_at (by omega)] at this
  exact Option.some.inj this
/-- the first of the rows that leads is the least -/
theorem first_least {n : Nat} {m g : Nat → Nat → Nat} {i : Nat} {f : Nat → Nat} (G : Grp n m) (G' : Grp n g) (h : (rowsN n (n - 1))[i]? = some ((List.range n).map f)) (hf : Iso n m g f)
    (hno : ∀ (j : Nat) (f' : Nat → Nat), j < i → (rowsN n (n - 1))[j]? = some ((List.range n).map f') → ¬ Iso n m g f') : Least n (Iso n m g) f := by
  refine ⟨hf, fun f' hf' => ?_⟩
  have pos := G.pos
  have mem : (List.range n).map f' ∈ rowsN n (n - 1) := by
    refine rowsN_has (n - 1) _ (by rw [List.length_map, List.length_range]; omega) (nodup_map_of List.nodup_range fun i hi j hj e => hf'.inj i j (List.mem_range.mp hi) (List.mem_range.mp hj) e) ?_ fun x hx => ?_
    · rw [rows_at pos, hf'.zero G G']
    · obtain ⟨i, hi, rfl⟩ := List.mem_map.mp hx
      exact hf'.lt i (List.mem_range.mp hi)
  obtain ⟨j, hj⟩ := List.getElem?_of_mem mem
  rcases Nat.lt_trichotomy i j with z | z | z
  · right
    obtain ⟨a1, b1⟩ := List.getElem?_eq_some_iff.mp h
    obtain ⟨a2, b2⟩ := List.getElem?_eq_some_iff.mp hj
    have := List.pairwise_iff_getElem.mp (rowsN_sorted (n := n) (n - 1)) i j a1 a2 z
    rw [b1, b2] at this
    exact this.lex
  · left
    subst z
    rw [h] at hj
    have := Option.some.inj hj
    intro k hk
    have e := congrArg (fun l => l[k]?) this
    have e : ((List.range n).map f)[k]? = ((List.range n).map f')[k]? := e
    rw [rows_at hk, rows_at hk] at e
    exact Option.some.inj e
  · exact absurd hf' (hno j f' z hj)
theorem none_first {n : Nat} {m g : Nat → Nat → Nat} (G : Grp n m) (G' : Grp n g)
    (hno : ∀ (j : Nat) (f' : Nat → Nat), (rowsN n (n - 1))[j]? = some ((List.range n).map f') → ¬ Iso n m g f') (f' : Nat → Nat) : ¬ Iso n m g f' := fun hf' => by
  have pos := G.pos
  have mem : (List.range n).map f' ∈ rowsN n (n - 1) := by
    refine rowsN_has (n - 1) _ (by rw [List.length_map, List.length_range]; omega) (nodup_map_of List.nodup_range fun i hi j hj e => hf'.inj i j (List.mem_range.mp hi) (List.mem_range.mp hj) e) ?_ fun x hx => ?_
    · rw [rows_at pos, hf'.zero G G']
    · obtain ⟨i, hi, rfl⟩ := List.mem_map.mp hx
      exact hf'.lt i (List.mem_range.mp hi)
  obtain ⟨j, hj⟩ := List.getElem?_of_mem mem
  exact hno j f' hj hf'
end K38

set_option Elab.async false
set_option linter.all false
set_option maxRecDepth 100000
set_option maxHeartbeats 4000000
/-! E8: _law_first. -/
namespace K38
open PySem PySem.Spec PyProof.Rows L2
theorem scFirst : FnScope ["_law_table_here", "_law_goal", "_law_rows", "_law_turn", "_law_longer", "_law_row", "_law_one"] ["_law_table_here", "_law_goal"] (defScope sFirst) := ⟨rfl, rfl, rfl, by decide +kernel, rfl, by decide +kernel, by decide +kernel⟩
/-- refs to tuples of numbers -/
def RowsL (K : PySem.W.Frag) (H : Hp) (ws : List V) (S : List (List Nat)) : Prop := ws.length = S.length ∧ ∀ (i : Nat) (v : V) (s : List Nat), ws[i]? = some v → S[i]? = some s → ∃ r, v = .ref r ∧ SqT K H r (lN s)
section
variable {K : PySem.W.Frag} {H H' : Hp}
theorem RowsL.same {vs : List V} {S : List (List Nat)} (h : RowsL K H vs S) (e : Same H H') : RowsL K H' vs S := ⟨h.1, fun i v s a b => by
  obtain ⟨r, h1, h2⟩ := h.2 i v s a b
  exact ⟨r, h1, sameT e h2⟩⟩
theorem RowsL.app {vs ws : List V} {S T : List (List Nat)} (h : RowsL K H vs S) (g : RowsL K H ws T) : RowsL K H (vs ++ ws) (S ++ T) := by
  refine ⟨by rw [List.length_append, List.length_append, h.1, g.1], fun i v q a b => ?_⟩
  by_cases hi : i < vs.length
  · rw [List.getElem?_append_left hi] at a
    rw [List.getElem?_append_left (by rw [← h.1]; exact hi)] at b
    exact h.2 i v q a b
  · rw [List.getElem?_append_right (by omega)] at a
    rw [List.getElem?_append_right (by rw [← h.1]; omega), ← h.1] at b
    exact g.2 _ v q a b
theorem RowsL.one {r : Addr} {s : List Nat} (h : SqT K H r (lN s)) : RowsL K H [.ref r] [s] := ⟨rfl, fun i v q a b => by
  cases i with
  | zero =>
    obtain rfl : V.ref r = v := Option.some.inj a
    obtain rfl : s = q := Option.some.inj b
    exact ⟨r, rfl, h⟩
  | succ i => cases a⟩
theorem RowsL.upd {vs ys : List V} {S : List (List Nat)} {D : Addr} {o : HO} (h : RowsL K H vs S) (hD : H D = some (.lst ys)) : RowsL K (L2.upd H D o) vs S := ⟨h.1, fun i v s a b => by
  obtain ⟨r, h1, h2⟩ := h.2 i v s a b
  exact ⟨r, h1, sqT_upd h2 hD⟩⟩
end
theorem ints_tup {n : Nat} {s : List Nat} {f : Nat → Nat} : s.map (fun x : Nat => (x : Int)) = tupF n f ↔ s = (List.range n).map f := by
  constructor
  · intro h
    have e : tupF n f = ((List.range n).map f).map fun x : Nat => (x : Int) := by
      unfold tupF
      rw [List.map_map]
      rfl
    rw [e] at h
    exact (List.map_inj_right (fun x y e => by omega)).mp h
  · intro h
    rw [h, List.map_map]
    rfl
theorem mem_ints {s : List Nat} {x : Nat} : ((x : Nat) : Int) ∈ s.map (fun x : Nat => (x : Int)) ↔ x ∈ s := by
  rw [List.mem_map]
  constructor
  · rintro ⟨y, hy, e⟩
    have : y = x := by omega
    rw [← this]
    exact hy
  · intro h
    exact ⟨x, h, rfl⟩
theorem pow6 {k : Nat} (h : k ≤ 5) : 6 ^ k ≤ 7776 := Nat.pow_le_pow_right (by decide) h
section
variable {P : Program} {w₀ : World} {K : PySem.W.Frag} {mg : Str → Option Value} {base : Heap}
def spLFirst (K : PySem.W.Frag) : Sp := fun vs H Q _ => ∃ (a b : Addr) (n : Nat) (m g : Nat → Nat → Nat), vs = [.ref a, .ref b] ∧ TabAt K H a n m ∧ TabAt K H b n g ∧ Grp n m ∧ Grp n g ∧ n ≤ 6 ∧
  (∀ H', Same H H' → (∀ f, ¬ Iso n m g f) → Q .non H') ∧ ∀ H' p f, Same H H' → SqT K H' p ((tupF n f).map V.int) → Least n (Iso n m g) f → Q (.ref p) H'
theorem ok_lfirst {fL f : Addr} {fd fdL : FuncData} (B : Bn mg) (DL : Df K mg "_law_leads" sLeads ["_law_table_here", "_law_goal", "_law_value"] fL fdL) (D : Df K mg "_law_first" sFirst ["_law_table_here", "_law_goal"] f fd) :
    FnOk P w₀ K mg base CX0 3 f fd ["_law_table_here", "_law_goal"] (spLFirst K) := by
  refine D.F.ok scFirst (fun vs H Q E h => ?_) (fun cdv A outer s H vs Q E hr h => ?_)
  · obtain ⟨a, b, n, m, g, rfl, _⟩ := h
    rfl
  · obtain ⟨a, b, n, m, g, rfl, ha, hb, G, G', hz, q1, q2⟩ := h
    refine ⟨_, pss_cons (ps_set (i := 2) scFirst.nd rfl (Or.inl rfl) (pe_lst (pa_cons (pe_tup (pa_cons pe_int pa_nil)) pa_nil)))
      (pss_cons (ps_for PassesOwn.never rfl (pi_range1 (by rfl) B.range (pa_cons (pe_op op_sub (pe_callB call_len_seq (by rfl) B.len b_len (pa_cons (pv 0) pa_nil)) pe_int) pa_nil)) (pg_name (i := 3) scFirst.nd rfl (Or.inl rfl))
        (pss_cons (ps_set (i := 4) scFirst.nd rfl (Or.inl rfl) (pe_lst pa_nil))
        (pss_cons (ps_for PassesOwn.never rfl (pi_list (pv 2)) (pg_name (i := 5) scFirst.nd rfl (Or.inr rfl))
          (pss_one (ps_set (i := 4) scFirst.nd rfl (Or.inl rfl) (pe_op op_cat (pv 4) (pe_lc (own := [("_law_one", 6)]) (g := gName 6) (tt := tTest (tOp (rNotInTI K) (tVar 6) (tVar 5))) (te := tOp (rCatT K) (tVar 5) (tTup (tCons (tVar 6) tNil))) rfl scFirst.nd (pi_range1 (by rfl) B.range (pa_cons (pe_callB call_len_seq (by rfl) B.len b_len (pa_cons (pv 0) pa_nil)) pa_nil))
            (blkOk_by (N := ["_law_table_here", "_law_goal", "_law_rows", "_law_turn", "_law_longer", "_law_row", "_law_one"]) (sc := defScope sFirst) (by decide +kernel))
            (fun _ _ _ _ _ => pg_name (i := 6) scFirst.nd rfl (Or.inl rfl)) (fun _ _ _ _ _ => pts_one (pt_cmpR (op_notInTI (hu65 hr)) (pv 6) (pv 5) (by rfl))) (fun _ _ _ _ _ => pe_op op_catT (pv 5) (pe_tup (pa_cons (pv 6) pa_nil))))))))
        (pss_one (ps_set (i := 2) scFirst.nd rfl (Or.inl rfl) (pv 4))))))
      (pss_cons (ps_for PassesOwn.never rfl (pi_list (pv 2)) (pg_name (i := 5) scFirst.nd rfl (Or.inr rfl))
        (pss_one (ps_if (pt_val (pe_call (ok_leads B DL) hr (by rfl) DL.g DL.F.kp DL.b .nil pass0 (pa_cons (pv 0) (pa_cons (pv 1) (pa_cons (pv 5) pa_nil))))) (pss_one (ps_ret (pv 5))) pss_nil)))
      (pss_one (ps_ret pe_non)))), ?_⟩
    obtain ⟨xa, ha1, ha2⟩ := ha.len
    have pos := G.pos
    refine ⟨by show 1 ≤ sizeLine; decide, fun e he => ⟨by show 1 ≤ sizeLine; decide, fun p hp => ?_⟩⟩
    have s0 := (same_new (o := .tup [V.int 0]) he).trans (same_new (o := .lst [V.ref e]) hp)
    have r0 : RowsL K (upd (upd H e (.tup [V.int 0])) p (.lst [V.ref e])) [V.ref e] [[0]] := RowsL.one (sameT (same_new hp) seqT_new)
    have p0 : upd (upd H e (.tup [V.int 0])) p (.lst [V.ref e]) p = some (.lst [V.ref e]) := upd_same
    generalize upd (upd H e (.tup [V.int 0])) p (.lst [V.ref e]) = H0 at *
    refine ⟨.ref a, rfl, a, xa, rfl, .inr (sameT s0 ha1), (xa.length : Nat), 1, rfl, rfl, _, rfl, by rw [ha2]; omega, by rw [ha2]; omega, ?_⟩
    have en : ((xa.length : Nat) - (1 : Int)).toNat = n - 1 := by omega
    rw [en]
    refine for_it (walk_range0 (n := n - 1)) (fun k σ H1 => ∃ pr ws x3 x4 x5 x6, σ = [some (.ref a), some (.ref b), some (.ref pr), x3, x4, x5, x6] ∧ Same H H1 ∧ H1 pr = some (.lst ws) ∧ RowsL K H1 ws (rowsN n k)) ⟨p, _, _, _, _, _, rfl, s0, p0, r0⟩ (fun _ _ _ _ _ => trivial) (fun k y σ H2 H1 hk hP hY => ?_) (fun σ H1 hP => ?_)
    · obtain ⟨rfl, rfl⟩ := hY
      obtain ⟨pr, ws, x3, x4, x5, x6, rfl, s1, hpr, hrows⟩ := hP
      have hsz := rowsN_size hz k
      have h6 := pow6 (k := k) (by omega)
      refine ⟨by decide, fun l0 hl0 => ?_⟩
      have s2 := s1.trans (same_new (o := .lst []) hl0)
      have hpr2 := same_new (o := .lst []) hl0 _ _ hpr
      have hrows2 := hrows.same (same_new (o := .lst []) hl0)
      have hl2 : upd H1 l0 (.lst []) l0 = some (.lst []) := upd_same
      generalize upd H1 l0 (.lst []) = H3 at *
      refine ⟨.ref pr, rfl, pr, rfl, ⟨_, .inl (.inl hpr2)⟩, ?_⟩
      refine for_it (walk_list (xs := ws)) (fun i σ H4 => ∃ lg ys x5 x6, σ = [some (.ref a), some (.ref b), some (.ref pr), some (.int (k : Nat)), some (.ref lg), x5, x6] ∧ Same H3 H4 ∧ H4 lg = some (.lst ys) ∧ RowsL K H4 ys (((rowsN n k).take i).flatMap (stepR n))) ⟨l0, [], _, _, rfl, Same.refl _, hl2, rfl, fun i v s a => by cases a⟩ (fun i σ H4 _ h => by
        obtain ⟨_, _, _, _, _, s4, _⟩ := h
        exact .inl (.inl (s4 _ _ hpr2))) (fun i y σ H5 H4 hi hP hY => ?_) (fun σ H4 hP => ?_)
      · obtain ⟨rfl, hy⟩ := hY
        obtain ⟨lg, ys, x5, x6, rfl, s4, hlg, hys⟩ := hP
        have hi2 : i < (rowsN n k).length := by rw [← hrows2.1]; exact hi
        have es : (rowsN n k)[i]? = some (rowsN n k)[i] := List.getElem?_eq_getElem hi2
        obtain ⟨r, rfl, hr3⟩ := hrows2.2 i y _ hy es
        have hsl := rowsN_len k _ (List.getElem_mem hi2)
        generalize hs : (rowsN n k)[i] = s at *
        have hr4 := sameT s4 hr3
        have sx := s2.trans s4
        refine ⟨.ref lg, rfl, .ref a, rfl, a, xa, rfl, .inr (sameT sx ha1), (n : Nat), by rw [ha2], by omega, by omega, fun D hD => ?_⟩
        rw [Int.toNat_natCast]
        refine lc_it (walk_range0 (n := n)) (fun x H5 => Same H4 H5 ∧ ∃ zs, H5 D = some (.lst zs) ∧ RowsL K H5 zs (((List.range x).filter fun x => decide (x ∉ s)).map fun x => s ++ [x])) ⟨same_new hD, [], upd_same, rfl, fun i v s a => by cases a⟩ (fun _ _ _ _ => trivial) (fun x y H6 H5 hx hP hY => ?_) (fun H5 hP => ?_)
        · obtain ⟨rfl, rfl⟩ := hY
          obtain ⟨s5, zs, hD5, hzs⟩ := hP
          have hr5 := sameT s5 hr4
          refine ⟨rfl, .int (x : Nat), rfl, .ref r, rfl, (x : Nat), r, s.map (fun x : Nat => (x : Int)), rfl, rfl, by rw [← lN_ints]; exact hr5, _, rfl, ?_⟩
          rw [List.range_succ, List.filter_append, List.map_append]
          by_cases hmem : x ∈ s
          · rw [decide_eq_true (mem_ints.mpr hmem)]
            have e1 : [x].filter (fun x => decide (x ∉ s)) = [] := by rw [List.filter_cons_of_neg (by simpa using hmem), List.filter_nil]
            rw [e1, List.map_nil, List.append_nil]
            exact iteF ⟨s5, zs, hD5, hzs⟩
          · rw [decide_eq_false fun z => hmem (mem_ints.mp z)]
            have e1 : [x].filter (fun x => decide (x ∉ s)) = [x] := by rw [List.filter_cons_of_pos (by simpa using hmem), List.filter_nil]
            rw [e1]
            refine iteT ⟨.ref r, rfl, .int (x : Nat), rfl, by show 1 ≤ sizeLine; decide, fun e6 he6 => ⟨r, e6, lN s, [.int (x : Nat)], rfl, rfl, sameT (same_new he6) hr5, seqT_new, fun z => ?_, ?_, fun z => absurd z (by simp), fun _ w hw => ?_⟩⟩
            · have := congrArg List.length z
              rw [lN_len, hsl] at this
              cases this
            · rw [lN_len, hsl]
              exact sz (by show k + 1 + 1 ≤ 100000; omega)
            have s7 := (same_new (o := .tup [V.int (x : Nat)]) he6).trans (same_new (o := .tup (lN s ++ [V.int (x : Nat)])) hw)
            have hD7 := s7 _ _ hD5
            have hzs7 := hzs.same s7
            have hw7 : SqT K (upd (upd H5 e6 (.tup [V.int (x : Nat)])) w (.tup (lN s ++ [V.int (x : Nat)]))) w (lN (s ++ [x])) := by
              have : lN (s ++ [x]) = lN s ++ [V.int (x : Nat)] := by
                unfold lN
                rw [List.map_append]
                rfl
              rw [this]
              exact seqT_new
            generalize upd (upd H5 e6 (.tup [V.int (x : Nat)])) w (.tup (lN s ++ [V.int (x : Nat)])) = H7 at *
            refine ⟨zs, hD7, ?_, fun c o z => ?_, zs ++ [.ref w], upd_same, (hzs7.upd hD7).app (RowsL.one (sqT_upd hw7 hD7))⟩
            · have := hzs.1
              have h9 := List.length_filter_le (fun x => decide (x ∉ s)) (List.range x)
              rw [List.length_range] at h9
              rw [List.length_map] at this
              exact szl (by omega)
            · rw [upd_ne (ne_of_none z hD)]
              exact s7 _ _ (s5 _ _ z)
        · obtain ⟨s5, zs, hD5, hzs⟩ := hP
          have hys5 := hys.same s5
          refine ⟨lg, D, ys, zs, rfl, rfl, s5 _ _ hlg, hD5, ?_, fun nl hnl => ?_⟩
          · have h1 := hys.1
            have h2 := hzs.1
            have h3 := flat_len (n := n) ((rowsN n k).take i)
            have h4 : ((rowsN n k).take i).length ≤ 7776 := by rw [List.length_take]; omega
            have h5 := stepR_len (n := n) s
            have h6 : ((rowsN n k).take i).length * n ≤ 7776 * 6 := Nat.mul_le_mul h4 hz
            have h2 : zs.length = (stepR n s).length := h2
            exact sz (by omega)
          refine ⟨nl, ys ++ zs, _, _, rfl, s4.trans (s5.trans (same_new hnl)), upd_same, ?_⟩
          rw [List.take_add_one, es, Option.toList_some, List.flatMap_append, List.flatMap_singleton]
          exact (hys5.same (same_new hnl)).app (hzs.same (same_new hnl))
      · obtain ⟨lg, ys, x5, x6, rfl, s4, hlg, hys⟩ := hP
        rw [hrows2.1, List.take_length] at hys
        exact ⟨.ref lg, rfl, lg, ys, _, _, _, _, rfl, s2.trans s4, hlg, hys⟩
    · obtain ⟨pr, ws, x3, x4, x5, x6, rfl, s1, hpr, hrows⟩ := hP
      refine ⟨.ref pr, rfl, pr, rfl, ⟨_, .inl (.inl hpr)⟩, ?_⟩
      refine for_it (walk_list (xs := ws)) (fun i σ H4 => (∃ x5, σ = [some (.ref a), some (.ref b), some (.ref pr), x3, x4, x5, x6]) ∧ Same H1 H4 ∧ ∀ (j : Nat) (f' : Nat → Nat), j < i → (rowsN n (n - 1))[j]? = some ((List.range n).map f') → ¬ Iso n m g f') ⟨⟨_, rfl⟩, Same.refl _, fun j f' h => absurd h (by omega)⟩ (fun i σ H4 _ h => .inl (.inl (h.2.1 _ _ hpr))) (fun i y σ H5 H4 hi hP hY => ?_) (fun σ H4 hP => ?_)
      · obtain ⟨rfl, hy⟩ := hY
        obtain ⟨⟨x5, rfl⟩, s4, hno⟩ := hP
        have hi2 : i < (rowsN n (n - 1)).length := by rw [← hrows.1]; exact hi
        have es : (rowsN n (n - 1))[i]? = some (rowsN n (n - 1))[i] := List.getElem?_eq_getElem hi2
        obtain ⟨r, rfl, hr3⟩ := hrows.2 i y _ hy es
        have hsl := rowsN_len (n - 1) _ (List.getElem_mem hi2)
        generalize hs : (rowsN n (n - 1))[i] = s at *
        have hr4 := sameT s4 hr3
        have sx := s1.trans s4
        refine ⟨.ref a, rfl, .ref b, rfl, .ref r, rfl, a, b, .ref r, n, n, m, g, some (s.map fun x : Nat => (x : Int)), rfl, ha.same sx, hb.same sx, vd_ints (by rw [← lN_ints]; exact hr4) (by rw [List.length_map]; omega), by omega, G.lt, fun H5 c s5 hc => ⟨c, rfl, ?_⟩⟩
        cases c with
        | true =>
          obtain ⟨_, f, ef, hf⟩ := hc.mp rfl
          have ef := Option.some.inj ef
          have e2 := ints_tup.mp ef
          refine iteT ⟨.ref r, rfl, q2 H5 r f (sx.trans s5) ?_ (first_least (i := i) G G' (by rw [es, e2]) hf hno)⟩
          rw [← ef, ← lN_ints]
          exact sameT s5 hr4
        | false =>
          refine iteF ⟨⟨_, rfl⟩, s4.trans s5, fun j f' hj e => ?_⟩
          rcases Nat.lt_or_eq_of_le (Nat.le_of_lt_succ hj) with z | z
          · exact hno j f' z e
          · subst z
            rw [es] at e
            have e := Option.some.inj e
            intro hf'
            have := hc.mpr ⟨rfl, f', by rw [ints_tup.mpr e], hf'⟩
            cases this
      · obtain ⟨⟨x5, rfl⟩, s4, hno⟩ := hP
        refine q1 _ (s1.trans s4) (none_first G G' fun j f' e => hno j f' ?_ e)
        rw [hrows.1]
        exact (List.getElem?_eq_some_iff.mp e).1
end
end K38

set_option linter.all false
/-! M4: the words of `_law_words`, plainly; the first of all by them. -/
namespace K38
structure Wd (n : Nat) (m : Nat → Nat → Nat) (starts found : List Nat) (W : List (Nat × Nat × Nat)) : Prop where
  fd : found = 0 :: W.map (·.1)
  nd : found.Nodup
  lt : ∀ x ∈ found, x < n
  ok : ∀ (i x b st : Nat), W[i]? = some (x, b, st) → x = m b st ∧ st ∈ starts ∧ b ∈ 0 :: (W.take i).map (·.1)
section
variable {n : Nat} {m g : Nat → Nat → Nat} {starts found : List Nat} {W : List (Nat × Nat × Nat)}
theorem Wd.len (w : Wd n m starts found W) : found.length ≤ n := nodup_len_le w.nd w.lt
theorem wd_start (h : 0 < n) : Wd n m starts [0] [] := ⟨rfl, by simp, fun x hx => by
  have : x = 0 := by simpa using hx
  rw [this]; exact h, fun i x b st e => by cases e⟩
theorem Wd.add (w : Wd n m starts found W) (hm : ∀ i j, i < n → j < n → m i j < n) {y st : Nat} (hy : y ∈ found) (hs : st ∈ starts) (hst : st < n) (hn : m y st ∉ found) : Wd n m starts (found ++ [m y st]) (W ++ [(m y st, y, st)]) := by
  refine ⟨by rw [w.fd, List.map_append]; rfl, ?_, fun x hx => ?_, fun i x b s e => ?_⟩
  · rw [List.nodup_append]
    refine ⟨w.nd, by simp, fun a ha b hb e => ?_⟩
    have : b = m y st := by simpa using hb
    rw [e, this] at ha
    exact hn ha
  · rcases List.mem_append.mp hx with z | z
    · exact w.lt x z
    · have : x = m y st := by simpa using z
      rw [this]
      exact hm _ _ (w.lt y hy) hst
  · by_cases hi : i < W.length
    · rw [List.getElem?_append_left hi] at e
      obtain ⟨h1, h2, h3⟩ := w.ok i x b s e
      refine ⟨h1, h2, ?_⟩
      rw [List.take_append_of_le_length (by omega)]
      exact h3
    · rw [List.getElem?_append_right (by omega)] at e
      have h0 : i - W.length = 0 := by
        by_cases h0 : i - W.length = 0
        · exact h0
        · rw [List.getElem?_eq_none (by simp; omega)] at e
          cases e
      rw [h0] at e
      have e := Option.some.inj e
      obtain ⟨rfl, rfl, rfl⟩ : m y st = x ∧ y = b ∧ st = s := ⟨(Prod.mk.inj e).1, (Prod.mk.inj (Prod.mk.inj e).2).1, (Prod.mk.inj (Prod.mk.inj e).2).2⟩
      refine ⟨rfl, hs, ?_⟩
      have : (W ++ [(m y st, y, st)]).take i = W := by
        rw [List.take_append_of_le_length (by omega), List.take_of_length_le (by omega)]
      rw [this, ← w.fd]
      exact hy
/-- a closed set with 0 holds all that is found -/
theorem Wd.sub (w : Wd n m starts found W) {F : List Nat} (h0 : 0 ∈ F) (hc : ∀ y ∈ F, ∀ st ∈ starts, m y st ∈ F) : ∀ x ∈ found, x ∈ F := by
  have key : ∀ (i x b st : Nat), W[i]? = some (x, b, st) → x ∈ F := by
    intro i
    induction i using Nat.strongRecOn with
    | ind i ih =>
      intro x b st e
      obtain ⟨h1, h2, h3⟩ := w.ok i x b st e
      rw [h1]
      refine hc b ?_ st h2
      rcases List.mem_cons.mp h3 with z | z
      · rw [z]; exact h0
      · obtain ⟨p, hp, rfl⟩ := List.mem_map.mp z
        obtain ⟨j, hj⟩ := List.getElem?_of_mem hp
        have hji : j < i := by
          have := (List.getElem?_eq_some_iff.mp hj).1
          rw [List.length_take] at this
          omega
        rw [List.getElem?_take_of_lt hji] at hj
        exact ih j hji p.1 p.2.1 p.2.2 hj
  intro x hx
  rw [w.fd] at hx
  rcases List.mem_cons.mp hx with z | z
  · rw [z]; exact h0
  · obtain ⟨p, hp, rfl⟩ := List.mem_map.mp z
    obtain ⟨i, hi⟩ := List.getElem?_of_mem hp
    exact key i p.1 p.2.1 p.2.2 hi
theorem Wd.zero (w : Wd n m starts found W) : 0 ∈ found := by rw [w.fd]; exact List.mem_cons_self
/-- more starts -/
theorem Wd.more {s : Nat} (w : Wd n m starts found W) : Wd n m (starts ++ [s]) found W := ⟨w.fd, w.nd, w.lt, fun i x b st e => by
  obtain ⟨h1, h2, h3⟩ := w.ok i x b st e
  exact ⟨h1, List.mem_append_left _ h2, h3⟩⟩
/-! ### candidates -/
/-- the images of the starts are these -/
def Tw (starts : List Nat) (s0 : Nat) (f : Nat → Nat) (one two : Nat) : Prop := f s0 = one ∧ ∀ st ∈ starts, st ≠ s0 → f st = two
theorem lex_trans {f f' f'' : Nat → Nat} (h : LexLt n f f') (h' : LexLt n f' f'') : LexLt n f f'' := by
  obtain ⟨k, hk, a, b⟩ := h
  obtain ⟨l, hl, c, d⟩ := h'
  rcases Nat.lt_trichotomy k l with z | z | z
  · exact ⟨k, hk, fun i hi => (a i hi).trans (c i (by omega)), by rw [← c k z]; exact b⟩
  · subst z
    exact ⟨k, hk, fun i hi => (a i hi).trans (c i hi), by omega⟩
  · exact ⟨l, hl, fun i hi => (a i (by omega)).trans (c i hi), by rw [a l z]; exact d⟩
theorem lex_same_r {f f' f'' : Nat → Nat} (h : LexLt n f f') (h' : Same_n n f' f'') : LexLt n f f'' := by
  obtain ⟨k, hk, a, b⟩ := h
  exact ⟨k, hk, fun i hi => (a i hi).trans (h' i (by omega)), by rw [← h' k hk]; exact b⟩
theorem lex_same_l {f f' f'' : Nat → Nat} (h : Same_n n f f') (h' : LexLt n f' f'') : LexLt n f f'' := by
  obtain ⟨k, hk, a, b⟩ := h'
  exact ⟨k, hk, fun i hi => (h i (by omega)).trans (a i hi), by rw [h k hk]; exact b⟩
theorem lex_total (f f' : Nat → Nat) : Same_n n f f' ∨ LexLt n f f' ∨ LexLt n f' f := by
  by_cases h : Same_n n f f'
  · exact .inl h
  · right
    have : ∃ k, k < n ∧ f k ≠ f' k := by
      refine Classical.byContradiction fun z => h fun i hi => ?_
      exact Classical.byContradiction fun e => z ⟨i, hi, e⟩
    obtain ⟨k, hk, h1, h2⟩ := least_of (P := fun k => f k ≠ f' k) n this
    have same : ∀ i, i < k → f i = f' i := fun i hi => Classical.byContradiction fun e => h2 i hi e
    rcases Nat.lt_or_gt_of_ne h1 with z | z
    · exact .inl ⟨k, hk, same, z⟩
    · exact .inr ⟨k, hk, fun i hi => (same i hi).symm, z⟩
/-- an iso's images of the starts stand among the tried ones -/
theorem tw_has {s0 : Nat} {f : Nat → Nat} (hf : Iso n m g f) (G : Grp n m) (G' : Grp n g) (hs : ∀ st ∈ starts, 0 < st ∧ st < n) (h0 : starts[0]? = some s0) (h2 : starts.length ≤ 2) : ∃ one two, 1 ≤ one ∧ one < n ∧ 1 ≤ two ∧ two < n ∧ Tw starts s0 f one two := by
  have pos : ∀ st, 0 < st → st < n → 1 ≤ f st ∧ f st < n := fun st h1 h2 => by
    refine ⟨Nat.pos_of_ne_zero fun z => ?_, hf.lt st h2⟩
    have := hf.inj st 0 h2 G.pos (by rw [z, hf.zero G G'])
    omega
  have hs0 := hs s0 (List.mem_of_getElem? h0)
  have p0 := pos s0 hs0.1 hs0.2
  match starts, h0, h2, hs with
  | [a], h0, _, hs =>
    obtain rfl : a = s0 := Option.some.inj h0
    exact ⟨f a, f a, p0.1, p0.2, p0.1, p0.2, rfl, fun st h1 h2 => absurd (by simpa using h1) h2⟩
  | [a, b], h0, _, hs =>
    obtain rfl : a = s0 := Option.some.inj h0
    have hb := hs b (by simp)
    have p1 := pos b hb.1 hb.2
    refine ⟨f a, f b, p0.1, p0.2, p1.1, p1.2, rfl, fun st h1 h2 => ?_⟩
    rcases List.mem_cons.mp h1 with z | z
    · exact absurd z h2
    · rw [show st = b by simpa using z]
end
end K38

set_option Elab.async false
set_option linter.all false
set_option maxRecDepth 100000
set_option maxHeartbeats 4000000
/-! E9: _law_words. -/
namespace K38
open PySem PySem.Spec PyProof.Rows L2
theorem scWords : FnScope ["_law_table_here", "_law_starts", "_law_found", "_law_words_here", "_law_share", "_law_at", "_law_start"] ["_law_table_here"] (defScope sWords) := ⟨rfl, rfl, rfl, by decide +kernel, rfl, by decide +kernel, by decide +kernel⟩
def wl (W : List (Nat × Nat × Nat)) : List (List Nat) := W.map fun w => [w.1, w.2.1, w.2.2]
theorem walk_rangeU {n : Nat} : Walk (Itr 1 n) n (fun _ => True) (YFn fun i => .int ((i + 1 : Nat) : Int)) :=
  walk_range.mono (fun _ h => h) fun i H x H' _ _ y => by
    obtain ⟨rfl, e⟩ := y
    refine ⟨rfl, e.trans ?_⟩
    show V.int (1 + (i : Nat)) = V.int ((i + 1 : Nat) : Int)
    congr 1
    omega
theorem lN_snoc (xs : List Nat) (x : Nat) : lN xs ++ [V.int (x : Nat)] = lN (xs ++ [x]) := by
  unfold lN
  rw [List.map_append]
  rfl
theorem sqL_lN {K : PySem.W.Frag} {H : Hp} {a : Addr} {xs : List Nat} (h : H a = some (.lst (lN xs))) : SqL K H a ((xs.map fun x : Nat => (x : Int)).map V.int) := by
  rw [← lN_ints]
  exact .inl (.inl h)
def WDone (m : Nat → Nat → Nat) (starts found : List Nat) (t : Nat) : Prop := ∀ (i y : Nat), found[i]? = some y → i < t → ∀ st ∈ starts, m y st ∈ found
section
variable {P : Program} {w₀ : World} {K : PySem.W.Frag} {mg : Str → Option Value} {base : Heap}
def spWords (K : PySem.W.Frag) : Sp := fun vs H Q _ => ∃ (a : Addr) (n : Nat) (m : Nat → Nat → Nat), vs = [.ref a] ∧ TabAt K H a n m ∧ Grp n m ∧ n ≤ 60 ∧ 1 < n ∧
  ∀ p ds dw H' ws starts found W, Same H H' → SqT K H' p [.ref ds, .ref dw] → H' ds = some (.lst (lN starts)) → H' dw = some (.lst ws) → RowsL K H' ws (wl W) → Wd n m starts found W → (∀ x, x < n → x ∈ found) → (∀ st ∈ starts, 0 < st ∧ st < n) → starts ≠ [] → starts.length ≤ n → Q (.ref p) H'
theorem ok_words {f : Addr} {fd : FuncData} (B : Bn mg) (D : Df K mg "_law_words" sWords ["_law_table_here"] f fd) : FnOk P w₀ K mg base CX0 1 f fd ["_law_table_here"] (spWords K) := by
  refine D.F.ok scWords (fun vs H Q E h => ?_) (fun cdv A outer s H vs Q E hr h => ?_)
  · obtain ⟨a, n, m, rfl, _⟩ := h
    rfl
  · obtain ⟨a, n, m, rfl, ha, G, hz, hn1, q⟩ := h
    refine ⟨_, pss_cons (ps_par3 (i := 1) (j := 2) (l := 3) rfl scWords.nd rfl rfl rfl (by decide) (by decide) (by decide) rfl rfl rfl (pa_cons (pe_lst pa_nil) (pa_cons (pe_lst (pa_cons pe_int pa_nil)) (pa_cons (pe_lst pa_nil) pa_nil))) (by rfl))
      (pss_cons (ps_for PassesOwn.never rfl (pi_range2 (by rfl) B.range (pa_cons pe_int (pa_cons (pe_callB call_len_seq (by rfl) B.len b_len (pa_cons (pv 0) pa_nil)) pa_nil))) (pg_name (i := 4) scWords.nd rfl (Or.inl rfl))
        (pss_one (ps_if (pt_cmpR (op_notInLI (hu65 hr)) (pv 4) (pv 2) (by rfl))
          (pss_cons (ps_expr (pe_bm PySem.F.plainAttrs_list PySem.F.slot_list_append PySem.F.type_list_append mt_append (pv 1) (pa_cons (pv 4) pa_nil)))
          (pss_cons (ps_par3 (i := 2) (j := 3) (l := 5) rfl scWords.nd rfl rfl rfl (by decide) (by decide) (by decide) rfl rfl rfl (pa_cons (pe_lst (pa_cons pe_int pa_nil)) (pa_cons (pe_lst pa_nil) (pa_cons pe_int pa_nil))) (by rfl))
          (pss_one (ps_while PassesOwn.never (pt_cmpR op_lt (pv 5) (pe_callB call_len_seq (by rfl) B.len b_len (pa_cons (pv 2) pa_nil)) (nomark _))
            (pss_cons (ps_for PassesOwn.never rfl (pi_list (pv 1)) (pg_name (i := 6) scWords.nd rfl (Or.inl rfl))
              (pss_one (ps_if (pt_cmpR (op_notInLI (hu65 hr)) (pe_ix ix_tup (pe_ix ix_tup (pv 0) (pe_ix ix_list (pv 2) (pv 5) (fun _ _ => rfl)) (fun _ _ => rfl)) (pv 6) (fun _ _ => rfl)) (pv 2) (by rfl))
                (pss_cons (ps_expr (pe_bm PySem.F.plainAttrs_list PySem.F.slot_list_append PySem.F.type_list_append mt_append (pv 3) (pa_cons (pe_tup (pa_cons (pe_ix ix_tup (pe_ix ix_tup (pv 0) (pe_ix ix_list (pv 2) (pv 5) (fun _ _ => rfl)) (fun _ _ => rfl)) (pv 6) (fun _ _ => rfl)) (pa_cons (pe_ix ix_list (pv 2) (pv 5) (fun _ _ => rfl)) (pa_cons (pv 6) pa_nil)))) pa_nil)))
                (pss_one (ps_expr (pe_bm PySem.F.plainAttrs_list PySem.F.slot_list_append PySem.F.type_list_append mt_append (pv 2) (pa_cons (pe_ix ix_tup (pe_ix ix_tup (pv 0) (pe_ix ix_list (pv 2) (pv 5) (fun _ _ => rfl)) (fun _ _ => rfl)) (pv 6) (fun _ _ => rfl)) pa_nil))))) pss_nil)))
            (pss_one (ps_set (i := 5) scWords.nd rfl (Or.inl rfl) (pe_op op_add (pv 5) pe_int)))))))) pss_nil)))
      (pss_one (ps_ret (pe_tup (pa_cons (pv 1) (pa_cons (pv 3) pa_nil)))))), ?_⟩
    obtain ⟨xa, ha1, ha2⟩ := ha.len
    refine ⟨by decide, fun ds hds => ⟨by show 1 ≤ sizeLine; decide, fun d2 hd2 => ⟨by decide, fun d3 hd3 => ⟨_, _, _, rfl, ?_⟩⟩⟩⟩
    have z1 := same_new (o := .lst []) hds
    have z2 := z1.trans (same_new (o := .lst [V.int 0]) hd2)
    have z3 := z2.trans (same_new (o := .lst []) hd3)
    have n2 : H d2 = none := z1.free hd2
    have n3 : H d3 = none := z2.free hd3
    have a1 : upd (upd (upd H ds (.lst [])) d2 (.lst [V.int 0])) d3 (.lst []) ds = some (.lst (lN [])) := same_new hd3 _ _ (same_new hd2 _ _ upd_same)
    have a2 : upd (upd (upd H ds (.lst [])) d2 (.lst [V.int 0])) d3 (.lst []) d2 = some (.lst (lN [0])) := same_new hd3 _ _ upd_same
    have a3 : upd (upd (upd H ds (.lst [])) d2 (.lst [V.int 0])) d3 (.lst []) d3 = some (.lst []) := upd_same
    generalize upd (upd (upd H ds (.lst [])) d2 (.lst [V.int 0])) d3 (.lst []) = H0 at *
    refine ⟨.ref a, rfl, a, xa, rfl, .inr (sameT z3 ha1), 1, (n : Nat), by rw [ha2], ⟨by omega, by omega, by omega, by omega⟩, ?_⟩
    have en : ((n : Nat) - (1 : Int)).toNat = n - 1 := by omega
    rw [en]
    refine for_it (walk_rangeU (n := n - 1)) (fun k σ H1 => ∃ df dw starts found W ws x4 x5 x6, σ = [some (.ref a), some (.ref ds), some (.ref df), some (.ref dw), x4, x5, x6] ∧ Same H H1 ∧ H1 ds = some (.lst (lN starts)) ∧ H1 df = some (.lst (lN found)) ∧ H1 dw = some (.lst ws) ∧ RowsL K H1 ws (wl W) ∧ Wd n m starts found W ∧
      (∀ y ∈ found, ∀ st ∈ starts, m y st ∈ found) ∧ (∀ x, x < k + 1 → x ∈ found) ∧ (∀ st ∈ starts, 0 < st ∧ st < n) ∧ starts.length ≤ k) ⟨d2, d3, [], [0], [], [], _, _, _, rfl, z3, a1, a2, a3, ⟨rfl, fun i v s e => by cases e⟩, wd_start (by omega), fun y _ st h => absurd h List.not_mem_nil, fun x hx => (Nat.lt_one_iff.mp hx ▸ List.mem_singleton.mpr rfl : x ∈ [0]), fun st h => absurd h List.not_mem_nil, Nat.le_refl 0⟩ (fun _ _ _ _ _ => trivial) (fun k y σ H2 H1 hk hP hY => ?_) (fun σ H1 hP => ?_)
    · obtain ⟨rfl, rfl⟩ := hY
      obtain ⟨df, dw, starts, found, W, ws, x4, x5, x6, rfl, s1, hS, hF, hW, hR, wd, hcl, hall, hst, hsl⟩ := hP
      refine ⟨.int ((k + 1 : Nat) : Int), rfl, .ref df, rfl, ((k + 1 : Nat) : Int), df, _, rfl, rfl, sqL_lN hF, _, rfl, ?_⟩
      by_cases hmem : k + 1 ∈ found
      · rw [decide_eq_true (mem_ints.mpr hmem)]
        refine iteF ⟨df, dw, starts, found, W, ws, _, _, _, rfl, s1, hS, hF, hW, hR, wd, hcl, fun x hx => ?_, hst, by omega⟩
        rcases Nat.lt_or_eq_of_le (Nat.le_of_lt_succ hx) with z | z
        · exact hall x z
        · rw [z]; exact hmem
      · rw [decide_eq_false fun z => hmem (mem_ints.mp z)]
        refine iteT ⟨.ref ds, rfl, .inl ⟨rfl, _, .inl (.inl hS)⟩, .int ((k + 1 : Nat) : Int), rfl, ds, lN starts, .int ((k + 1 : Nat) : Int), rfl, rfl, hS, by rw [lN_len]; exact szl (by omega), ?_⟩
        rw [lN_snoc]
        have b1 : upd H1 ds (.lst (lN (starts ++ [k + 1]))) ds = some (.lst (lN (starts ++ [k + 1]))) := upd_same
        have sB : Same H (upd H1 ds (.lst (lN (starts ++ [k + 1])))) := fun c o z => by
          rw [upd_ne (ne_of_none z hds)]
          exact s1 c o z
        generalize upd H1 ds (.lst (lN (starts ++ [k + 1]))) = H2 at *
        refine ⟨by show 1 ≤ sizeLine; decide, fun e2 he2 => ⟨by decide, fun e3 he3 => ⟨_, _, _, rfl, ?_⟩⟩⟩
        have y2 := sB.trans (same_new (o := .lst [V.int 0]) he2)
        have y3 := y2.trans (same_new (o := .lst []) he3)
        have m2 : H e2 = none := sB.free he2
        have m3 : H e3 = none := y2.free he3
        have c1 : upd (upd H2 e2 (.lst [V.int 0])) e3 (.lst []) ds = some (.lst (lN (starts ++ [k + 1]))) := same_new he3 _ _ (same_new he2 _ _ b1)
        have c2 : upd (upd H2 e2 (.lst [V.int 0])) e3 (.lst []) e2 = some (.lst (lN [0])) := same_new he3 _ _ upd_same
        have c3 : upd (upd H2 e2 (.lst [V.int 0])) e3 (.lst []) e3 = some (.lst []) := upd_same
        have q12 : ds ≠ e2 := ne_of_none b1 he2
        have q13 : ds ≠ e3 := ne_of_none (same_new (o := .lst [V.int 0]) he2 _ _ b1) he3
        have q23 : e2 ≠ e3 := ne_of_none upd_same he3
        generalize upd (upd H2 e2 (.lst [V.int 0])) e3 (.lst []) = H3 at *
        have hst' : ∀ st ∈ starts ++ [k + 1], 0 < st ∧ st < n := fun st h => by
          rcases List.mem_append.mp h with z | z
          · exact hst st z
          · have : st = k + 1 := by simpa using z
            rw [this]; omega
        generalize hss : starts ++ [k + 1] = starts' at *
        refine ⟨fun kk σ H4 => ∃ t found W ws x6, kk = n - t ∧ t ≤ found.length ∧ σ = [some (.ref a), some (.ref ds), some (.ref e2), some (.ref e3), some (.int ((k + 1 : Nat) : Int)), some (.int (t : Nat)), x6] ∧ Same H H4 ∧ H4 ds = some (.lst (lN starts')) ∧ H4 e2 = some (.lst (lN found)) ∧ H4 e3 = some (.lst ws) ∧ RowsL K H4 ws (wl W) ∧
          Wd n m starts' found W ∧ WDone m starts' found t, ⟨n, 0, [0], [], [], _, rfl, Nat.zero_le _, rfl, y3, c1, c2, c3, ⟨rfl, fun i v s e => by cases e⟩, wd_start (by omega), fun i y _ h => absurd h (by omega)⟩, fun kk σ H4 hWW => ?_⟩
        obtain ⟨t, found2, W2, ws2, x6, rfl, htl, rfl, s4, hS4, hF4, hW4, hR4, wd4, hdn⟩ := hWW
        refine ⟨.int (t : Nat), rfl, .ref e2, rfl, e2, lN found2, rfl, .inl (.inl (.inl hF4)), (t : Nat), ((lN found2).length : Nat), rfl, rfl, _, rfl, ite2 (fun e => ?_) (fun e => ?_)⟩
        · rw [lN_len] at e
          have ht : t < found2.length := by have := of_decide_eq_true e; omega
          have hfl := wd4.len
          refine ⟨fun σ' H' => ∃ found W ws x6, t + 1 ≤ found.length ∧ σ' = [some (.ref a), some (.ref ds), some (.ref e2), some (.ref e3), some (.int ((k + 1 : Nat) : Int)), some (.int ((t + 1 : Nat) : Int)), x6] ∧ Same H H' ∧ H' ds = some (.lst (lN starts')) ∧ H' e2 = some (.lst (lN found)) ∧ H' e3 = some (.lst ws) ∧ RowsL K H' ws (wl W) ∧
            Wd n m starts' found W ∧ WDone m starts' found (t + 1), fun σ' H' hN => ?_, ?_⟩
          · obtain ⟨found, W, ws, x6, k1, rfl, k3, k4, k5, k6, k7, k8, k9⟩ := hN
            exact ⟨n - (t + 1), by omega, t + 1, found, W, ws, x6, rfl, k1, rfl, k3, k4, k5, k6, k7, k8, k9⟩
          · obtain ⟨y, hy⟩ : ∃ y, found2[t]? = some y := ⟨_, List.getElem?_eq_getElem ht⟩
            refine ⟨.ref ds, rfl, ds, rfl, ⟨_, .inl (.inl hS4)⟩, ?_⟩
            refine for_it (walk_list (xs := lN starts')) (fun i σ H5 => ∃ found W ws x6, t < found.length ∧ found[t]? = some y ∧ σ = [some (.ref a), some (.ref ds), some (.ref e2), some (.ref e3), some (.int ((k + 1 : Nat) : Int)), some (.int (t : Nat)), x6] ∧ Same H H5 ∧ H5 ds = some (.lst (lN starts')) ∧ H5 e2 = some (.lst (lN found)) ∧ H5 e3 = some (.lst ws) ∧ RowsL K H5 ws (wl W) ∧
              Wd n m starts' found W ∧ WDone m starts' found t ∧ ∀ (j st : Nat), starts'[j]? = some st → j < i → m y st ∈ found) ⟨found2, W2, ws2, _, ht, hy, rfl, s4, hS4, hF4, hW4, hR4, wd4, hdn, fun j st _ h => absurd h (by omega)⟩ (fun i σ H5 _ h => by
                obtain ⟨_, _, _, _, _, _, _, _, h, _⟩ := h
                exact .inl (.inl h)) (fun i y1 σ H6 H5 hi hP hY => ?_) (fun σ H5 hP => ?_)
            · obtain ⟨rfl, hy1⟩ := hY
              clear hS4 hF4 hW4 hR4 wd4 hdn hfl ht hy s4 htl e
              obtain ⟨found3, W3, ws3, x6, ht, hy, rfl, s5, hS5, hF5, hW5, hR5, wd5, hdn, hrow⟩ := hP
              rw [lN_len] at hi
              have es : starts'[i]? = some starts'[i] := List.getElem?_eq_getElem hi
              rw [lN_at es] at hy1
              obtain rfl := Option.some.inj hy1
              have hsm : starts'[i] ∈ starts' := List.getElem_mem hi
              generalize hs : starts'[i] = st at *
              have hyf : y ∈ found3 := List.mem_of_getElem? hy
              have hyn := wd5.lt y hyf
              have hsn := hst' st hsm
              have hfl := wd5.len
              have rdF : ∀ {H : Hp} {σ : L2.St}, σ[2]? = some (some (.ref e2)) → σ[5]? = some (some (.int (t : Nat))) → H e2 = some (.lst (lN found3)) → ∀ Q : VK, Q (.int (y : Nat)) H → tOp (rIxL K) (tVar 2) (tVar 5) σ H Q := fun {H σ} h1 h2 h3 Q q =>
                ⟨.ref e2, h1, .int (t : Nat), h2, e2, lN found3, (t : Nat), .int (y : Nat), rfl, rfl, .inl (.inl h3), atI_nat (lN_at hy), q⟩
              have rdT : ∀ {H1 : Hp} {σ : L2.St}, Same H H1 → σ[0]? = some (some (.ref a)) → σ[2]? = some (some (.ref e2)) → σ[5]? = some (some (.int (t : Nat))) → σ[6]? = some (some (.int (st : Nat))) → H1 e2 = some (.lst (lN found3)) → ∀ Q : VK, Q (.int (m y st : Nat)) H1 →
                  tOp (rIxT K) (tOp (rIxT K) (tVar 0) (tOp (rIxL K) (tVar 2) (tVar 5))) (tVar 6) σ H1 Q := fun {H1 σ} hs h0 h2 h5 h6 h3 Q q =>
                ix_tab (ha.same hs) hyn hsn.2 (fun Q q => ⟨_, h0, q⟩) (rdF h2 h5 h3) (fun Q q => ⟨_, h6, q⟩) q
              refine rdT s5 rfl rfl rfl rfl hF5 _ ⟨.ref e2, rfl, ((m y st : Nat) : Int), e2, _, rfl, rfl, sqL_lN hF5, _, rfl, ?_⟩
              by_cases hmem2 : m y st ∈ found3
              · rw [decide_eq_true (mem_ints.mpr hmem2)]
                refine iteF ⟨found3, W3, ws3, _, ht, hy, rfl, s5, hS5, hF5, hW5, hR5, wd5, hdn, fun j st2 h1 h2 => ?_⟩
                rcases Nat.lt_or_eq_of_le (Nat.le_of_lt_succ h2) with z | z
                · exact hrow j st2 h1 z
                · subst z
                  rw [es] at h1
                  obtain rfl := Option.some.inj h1
                  exact hmem2
              · rw [decide_eq_false fun z => hmem2 (mem_ints.mp z)]
                refine iteT ⟨.ref e3, rfl, .inl ⟨rfl, _, .inl (.inl hW5)⟩, rdT s5 rfl rfl rfl rfl hF5 _ (rdF rfl rfl hF5 _ ⟨.int (st : Nat), rfl, by show 3 ≤ sizeLine; decide, fun tt htt => ?_⟩)⟩
                have s6 := s5.trans (same_new (o := .tup [V.int (m y st : Nat), V.int (y : Nat), V.int (st : Nat)]) htt)
                have sN := same_new (o := .tup [V.int (m y st : Nat), V.int (y : Nat), V.int (st : Nat)]) htt
                have hS6 := sN _ _ hS5
                have hF6 := sN _ _ hF5
                have hW6 := sN _ _ hW5
                have hR6 := hR5.same sN
                have hT6 : SqT K (upd H5 tt (.tup [V.int (m y st : Nat), V.int (y : Nat), V.int (st : Nat)])) tt (lN [m y st, y, st]) := seqT_new
                generalize upd H5 tt (.tup [V.int (m y st : Nat), V.int (y : Nat), V.int (st : Nat)]) = H6 at *
                have hwl : ws3.length = W3.length := by have := hR5.1; unfold wl at this; rw [List.length_map] at this; exact this
                have hfw : found3.length = W3.length + 1 := by rw [wd5.fd, List.length_cons, List.length_map]
                refine ⟨e3, ws3, .ref tt, rfl, rfl, hW6, szl (by omega), ?_⟩
                have s7 : Same H (upd H6 e3 (.lst (ws3 ++ [V.ref tt]))) := fun c o z => by
                  rw [upd_ne (ne_of_none z m3)]
                  exact s6 c o z
                have hS7 : upd H6 e3 (.lst (ws3 ++ [V.ref tt])) ds = some (.lst (lN starts')) := by rw [upd_ne q13]; exact hS6
                have hF7 : upd H6 e3 (.lst (ws3 ++ [V.ref tt])) e2 = some (.lst (lN found3)) := by rw [upd_ne q23]; exact hF6
                have hW7 : upd H6 e3 (.lst (ws3 ++ [V.ref tt])) e3 = some (.lst (ws3 ++ [V.ref tt])) := upd_same
                have hR7 : RowsL K (upd H6 e3 (.lst (ws3 ++ [V.ref tt]))) (ws3 ++ [V.ref tt]) (wl (W3 ++ [(m y st, y, st)])) := by
                  unfold wl
                  rw [List.map_append]
                  exact (hR6.upd hW6).app (RowsL.one (sqT_upd hT6 hW6))
                generalize upd H6 e3 (.lst (ws3 ++ [V.ref tt])) = H7 at *
                refine ⟨.ref e2, rfl, .inl ⟨rfl, _, .inl (.inl hF7)⟩, rdT s7 rfl rfl rfl rfl hF7 _ ⟨e2, lN found3, .int (m y st : Nat), rfl, rfl, hF7, by rw [lN_len]; exact szl (by omega), ?_⟩⟩
                rw [lN_snoc]
                refine ⟨found3 ++ [m y st], W3 ++ [(m y st, y, st)], _, _, by rw [List.length_append]; omega, by rw [List.getElem?_append_left ht]; exact hy, rfl, fun c o z => ?_, by rw [upd_ne q12]; exact hS7, upd_same, by rw [upd_ne q23.symm]; exact hW7, hR7.upd hF7, wd5.add G.lt hyf hsm hsn.2 hmem2, fun i2 y2 h1 h2 st2 h3 => ?_, fun j st2 h1 h2 => ?_⟩
                · rw [upd_ne (ne_of_none z m2)]
                  exact s7 c o z
                · rw [List.getElem?_append_left (by omega)] at h1
                  exact List.mem_append_left _ (hdn i2 y2 h1 h2 st2 h3)
                · rcases Nat.lt_or_eq_of_le (Nat.le_of_lt_succ h2) with z | z
                  · exact List.mem_append_left _ (hrow j st2 h1 z)
                  · subst z
                    rw [es] at h1
                    obtain rfl := Option.some.inj h1
                    exact List.mem_append_right _ (List.mem_singleton.mpr rfl)
            · clear hS4 hF4 hW4 hR4 wd4 hdn hfl ht hy s4 htl e
              obtain ⟨found3, W3, ws3, x6, ht, hy, rfl, s5, hS5, hF5, hW5, hR5, wd5, hdn, hrow⟩ := hP
              refine ⟨.int (t : Nat), rfl, (t : Nat), 1, rfl, rfl, found3, W3, ws3, _, ht, rfl, s5, hS5, hF5, hW5, hR5, wd5, fun i2 y2 h1 h2 st2 h3 => ?_⟩
              rcases Nat.lt_or_eq_of_le (Nat.le_of_lt_succ h2) with z | z
              · exact hdn i2 y2 h1 z st2 h3
              · subst z
                rw [hy] at h1
                obtain rfl := Option.some.inj h1
                obtain ⟨j, hj⟩ := List.getElem?_of_mem h3
                refine hrow j st2 hj ?_
                rw [lN_len]
                exact (List.getElem?_eq_some_iff.mp hj).1
        · rw [lN_len] at e
          have ht : t = found2.length := by
            have : ¬ ((t : Nat) : Int) < (found2.length : Nat) := fun z => e (decide_eq_true z)
            omega
          subst ht
          have hcl2 : ∀ y ∈ found2, ∀ st ∈ starts', m y st ∈ found2 := fun y hy st hs => by
            obtain ⟨i, hi⟩ := List.getElem?_of_mem hy
            exact hdn i y hi (List.getElem?_eq_some_iff.mp hi).1 st hs
          have hsub := (wd.more (s := k + 1))
          rw [hss] at hsub
          have hsub := hsub.sub wd4.zero hcl2
          refine ⟨e2, e3, starts', found2, W2, ws2, _, _, _, rfl, s4, hS4, hF4, hW4, hR4, wd4, hcl2, fun x hx => ?_, hst', ?_⟩
          · rcases Nat.lt_or_eq_of_le (Nat.le_of_lt_succ hx) with z | z
            · exact hsub x (hall x z)
            · have hk1 : k + 1 ∈ starts' := by rw [← hss]; exact List.mem_append_right _ (List.mem_singleton.mpr rfl)
              have := hcl2 0 wd4.zero (k + 1) hk1
              rw [G.idl (k + 1) (by omega)] at this
              rw [z]
              exact this
          · rw [← hss, List.length_append, List.length_singleton]
            omega
    · obtain ⟨df, dw, starts, found, W, ws, x4, x5, x6, rfl, s1, hS, hF, hW, hR, wd, hcl, hall, hst, hsl⟩ := hP
      refine ⟨.ref ds, rfl, .ref dw, rfl, by show 2 ≤ sizeLine; decide, fun p hp => ?_⟩
      have sN := same_new (o := .tup [V.ref ds, V.ref dw]) hp
      refine q p ds dw _ ws starts found W (s1.trans sN) seqT_new (sN _ _ hS) (sN _ _ hW) (hR.same sN) wd (fun x hx => hall x (by omega)) hst (fun e => ?_) (by omega)
      subst e
      have h1 := hall 1 (by omega)
      rw [wd.fd] at h1
      rcases List.mem_cons.mp h1 with z | z
      · cases z
      · obtain ⟨w, hw, _⟩ := List.mem_map.mp z
        obtain ⟨i, hi⟩ := List.getElem?_of_mem hw
        obtain ⟨_, h2, _⟩ := wd.ok i w.1 w.2.1 w.2.2 hi
        cases h2
end
end K38

set_option Elab.async false
set_option linter.all false
set_option maxRecDepth 100000
set_option maxHeartbeats 4000000
/-! E10: _law_least. -/
namespace K38
open PySem PySem.Spec PyProof.Rows L2
theorem scLeast : FnScope ["_law_table_here", "_law_goal", "_law_starts", "_law_words_here", "_law_best", "_law_one", "_law_two", "_law_images", "_law_share", "_law_before", "_law_start", "_law_value"] ["_law_table_here", "_law_goal"] (defScope sLeast) := ⟨rfl, rfl, rfl, by decide +kernel, rfl, by decide +kernel, by decide +kernel⟩
theorem lexLt_iff : ∀ {xs ys : List Int}, xs.length = ys.length → (HT.lexLt xs ys = true ↔ ∃ (k : Nat) (a b : Int), xs[k]? = some a ∧ ys[k]? = some b ∧ a < b ∧ ∀ i, i < k → xs[i]? = ys[i]?)
  | [], [], _ => by
    constructor
    · intro h; cases h
    · rintro ⟨k, a, b, h, _⟩; cases h
  | [], _ :: _, h => by cases h
  | _ :: _, [], h => by cases h
  | x :: xs, y :: ys, h => by
    have ih := lexLt_iff (xs := xs) (ys := ys) (by simpa using h)
    show (if x = y then HT.lexLt xs ys else decide (x < y)) = true ↔ _
    by_cases e : x = y
    · rw [if_pos e, ih]
      subst e
      constructor
      · rintro ⟨k, a, b, h1, h2, h3, h4⟩
        refine ⟨k + 1, a, b, h1, h2, h3, fun i hi => ?_⟩
        cases i with
        | zero => rfl
        | succ i => exact h4 i (by omega)
      · rintro ⟨k, a, b, h1, h2, h3, h4⟩
        cases k with
        | zero =>
          have e1 : x = a := Option.some.inj h1
          have e2 : x = b := Option.some.inj h2
          omega
        | succ k => exact ⟨k, a, b, h1, h2, h3, fun i hi => h4 (i + 1) (by omega)⟩
    · rw [if_neg e, decide_eq_true_eq]
      constructor
      · intro hlt
        exact ⟨0, x, y, rfl, rfl, hlt, fun i hi => absurd hi (by omega)⟩
      · rintro ⟨k, a, b, h1, h2, h3, h4⟩
        cases k with
        | zero =>
          have e1 : x = a := Option.some.inj h1
          have e2 : y = b := Option.some.inj h2
          omega
        | succ k =>
          have := h4 0 (by omega)
          exact absurd (Option.some.inj this) e
theorem lexLt_tup {n : Nat} {f f' : Nat → Nat} : HT.lexLt (tupF n f) (tupF n f') = true ↔ LexLt n f f' := by
  rw [lexLt_iff (by rw [tupF_len, tupF_len])]
  constructor
  · rintro ⟨k, a, b, h1, h2, h3, h4⟩
    have hk : k < n := by
      have := (List.getElem?_eq_some_iff.mp h1).1
      rw [tupF_len] at this
      exact this
    rw [tupF_at hk] at h1 h2
    have e1 := Option.some.inj h1
    have e2 := Option.some.inj h2
    refine ⟨k, hk, fun i hi => ?_, by omega⟩
    have := h4 i hi
    rw [tupF_at (by omega), tupF_at (by omega)] at this
    have := Option.some.inj this
    omega
  · rintro ⟨k, hk, h1, h2⟩
    exact ⟨k, _, _, tupF_at hk, tupF_at hk, by omega, fun i hi => by rw [tupF_at (by omega), tupF_at (by omega), h1 i hi]⟩
def Good (starts : List Nat) (s0 n i j : Nat) (f : Nat → Nat) : Prop := ∃ one two, Tw starts s0 f one two ∧ 1 ≤ one ∧ 1 ≤ two ∧ two < n ∧ (one < i + 1 ∨ (one = i + 1 ∧ two < j + 1))
theorem good_step {starts : List Nat} {s0 n i j : Nat} {f : Nat → Nat} (h : Good starts s0 n i (j + 1) f) : Good starts s0 n i j f ∨ Tw starts s0 f (i + 1) (j + 1) := by
  obtain ⟨one, two, t, h1, h2, h3, h4⟩ := h
  rcases h4 with h4 | ⟨h4, h5⟩
  · exact .inl ⟨one, two, t, h1, h2, h3, .inl h4⟩
  · rcases Nat.lt_or_eq_of_le (Nat.le_of_lt_succ h5) with z | z
    · exact .inl ⟨one, two, t, h1, h2, h3, .inr ⟨h4, z⟩⟩
    · subst h4
      subst z
      exact .inr t
def BestOk (K : PySem.W.Frag) (H : Hp) (n : Nat) (m g : Nat → Nat → Nat) (best : V) (good : (Nat → Nat) → Prop) : Prop :=
  (best = .non ∧ ∀ f, Iso n m g f → ¬ good f) ∨ ∃ p fb, best = .ref p ∧ SqT K H p ((tupF n fb).map V.int) ∧ Iso n m g fb ∧ ∀ f, Iso n m g f → good f → Same_n n fb f ∨ LexLt n fb f
theorem BestOk.mono {K : PySem.W.Frag} {H H' : Hp} {n : Nat} {m g : Nat → Nat → Nat} {best : V} {good good' : (Nat → Nat) → Prop} (h : BestOk K H n m g best good) (s : Same H H') (w : ∀ f, good' f → good f) : BestOk K H' n m g best good' := by
  rcases h with ⟨h1, h2⟩ | ⟨p, fb, h1, h2, h3, h4⟩
  · exact .inl ⟨h1, fun f hf hg => h2 f hf (w f hg)⟩
  · exact .inr ⟨p, fb, h1, sameT s h2, h3, fun f hf hg => h4 f hf (w f hg)⟩
theorem rowV_tup {n i : Nat} {R : Nat → Nat → Nat} : rowV n R i = (tupF n (R i)).map V.int := rowV_int i
/-- 0 or the first of all -/
def spLeast (K : PySem.W.Frag) : Sp := fun vs H Q _ => ∃ (a b : Addr) (n : Nat) (m g : Nat → Nat → Nat), vs = [.ref a, .ref b] ∧ TabAt K H a n m ∧ TabAt K H b n g ∧ Grp n m ∧ Grp n g ∧ n ≤ 60 ∧ 1 < n ∧ (∃ f, Iso n m g f) ∧
  (∀ H', Same H H' → Q (.int 0) H') ∧ ∀ H' p f, Same H H' → SqT K H' p ((tupF n f).map V.int) → Least n (Iso n m g) f → Q (.ref p) H'
section
variable {P : Program} {w₀ : World} {K : PySem.W.Frag} {mg : Str → Option Value} {base : Heap}
theorem ok_least {fL fW f : Addr} {fd fdL fdW : FuncData} (B : Bn mg) (DL : Df K mg "_law_leads" sLeads ["_law_table_here", "_law_goal", "_law_value"] fL fdL) (DW : Df K mg "_law_words" sWords ["_law_table_here"] fW fdW)
    (D : Df K mg "_law_least" sLeast ["_law_table_here", "_law_goal"] f fd) : FnOk P w₀ K mg base CX0 3 f fd ["_law_table_here", "_law_goal"] (spLeast K) := by
  refine D.F.ok scLeast (fun vs H Q E h => ?_) (fun cdv A outer s H vs Q E hr h => ?_)
  · obtain ⟨a, b, n, m, g, rfl, _⟩ := h
    rfl
  · obtain ⟨a, b, n, m, g, rfl, ha, hb, G, G', hz, hn1, hex, q1, q2⟩ := h
    have hul : (A.deeper (envOfC "_law_least" (defScope sLeast) s.heap.objs.size f cdv)).units < cLine := Nat.lt_of_le_of_lt (Nat.le_add_right _ 65) (hu65 hr)
    refine ⟨_, pss_cons (ps_asg (pe_call (ok_words B DW) (hr.mono (by decide)) (by rfl) DW.g DW.F.kp DW.b .nil pass0 (pa_cons (pv 0) pa_nil)) (pg_tup (n := 2) rfl (pgs_cons (pg_name (i := 2) scLeast.nd rfl (Or.inl rfl)) (pgs_cons (pg_name (i := 3) scLeast.nd rfl (Or.inl rfl)) pgs_nil))))
      (pss_cons (ps_if (pt_cmpR op_gt (pe_callB call_len_seq (by rfl) B.len b_len (pa_cons (pv 2) pa_nil)) pe_int (nomark _)) (pss_one (ps_ret pe_int)) pss_nil)
      (pss_cons (ps_set (i := 4) scLeast.nd rfl (Or.inl rfl) pe_non)
      (pss_cons (ps_for PassesOwn.never rfl (pi_range2 (by rfl) B.range (pa_cons pe_int (pa_cons (pe_callB call_len_seq (by rfl) B.len b_len (pa_cons (pv 0) pa_nil)) pa_nil))) (pg_name (i := 5) scLeast.nd rfl (Or.inl rfl))
        (pss_one (ps_for PassesOwn.never rfl (pi_range2 (by rfl) B.range (pa_cons pe_int (pa_cons (pe_callB call_len_seq (by rfl) B.len b_len (pa_cons (pv 0) pa_nil)) pa_nil))) (pg_name (i := 6) scLeast.nd rfl (Or.inl rfl))
          (pss_cons (ps_set (i := 7) scLeast.nd rfl (Or.inl rfl) (pe_op op_rep (pe_lst (pa_cons pe_int pa_nil)) (pe_callB call_len_seq (by rfl) B.len b_len (pa_cons (pv 0) pa_nil))))
          (pss_cons (ps_for PassesOwn.never rfl (pi_list (pv 3)) (pg_tup (n := 3) rfl (pgs_cons (pg_name (i := 8) scLeast.nd rfl (Or.inl rfl)) (pgs_cons (pg_name (i := 9) scLeast.nd rfl (Or.inl rfl)) (pgs_cons (pg_name (i := 10) scLeast.nd rfl (Or.inl rfl)) pgs_nil))))
            (pss_one (ps_asg (pe_ix ix_tup (pe_ix ix_tup (pv 1) (pe_ix ix_list (pv 7) (pv 9) (fun _ _ => rfl)) (fun _ _ => rfl)) (pe_ifExp (pt_cmpR op_eq (pv 10) (pe_ix ix_list (pv 2) pe_int (fun _ _ => rfl)) (nomark _)) (pv 5) (pv 6)) (fun _ _ => rfl)) (pg_sub (pv 7) (pv 8) set_list))))
          (pss_cons (ps_set (i := 11) scLeast.nd rfl (Or.inl rfl) (pe_callTy call_tupO (by rfl) B.tuple b_tuple (pa_cons (pv 7) pa_nil)))
          (pss_one (ps_if (PW.pt (pw_and (PW.pt (pw_or (pt_cmp (pc_isN (pv 4))) (pw_or1 (pt_cmpR (op_ltT hul) (pv 11) (pv 4) (nomark _))))) (pw_and1 (pt_val (pe_call (ok_leads B DL) hr (by rfl) DL.g DL.F.kp DL.b .nil pass0 (pa_cons (pv 0) (pa_cons (pv 1) (pa_cons (pv 11) pa_nil))))))))
            (pss_one (ps_set (i := 4) scLeast.nd rfl (Or.inl rfl) (pv 11))) pss_nil))))))))
      (pss_one (ps_ret (pv 4)))))), ?_⟩
    obtain ⟨xa, ha1, ha2⟩ := ha.len
    refine ⟨.ref a, rfl, a, n, m, rfl, ha, G, hz, hn1, fun p ds dw H1 ws starts found W s1 hp hS hW hR wd hall hst hne hsl => ⟨p, _, rfl, hp, rfl, _, _, rfl, _, _, rfl, rfl, ?_⟩⟩
    refine ⟨.ref ds, rfl, ds, lN starts, rfl, .inl (.inl (.inl hS)), ((lN starts).length : Nat), 2, rfl, rfl, _, rfl, ite2 (fun e => q1 H1 s1) (fun e => ?_)⟩
    have hl2 : starts.length ≤ 2 := by
      rw [lN_len] at e
      have : ¬ (2 : Int) < (starts.length : Nat) := fun z => e (decide_eq_true z)
      omega
    clear e
    obtain ⟨s0, h0⟩ : ∃ s0, starts[0]? = some s0 := ⟨_, List.getElem?_eq_getElem (List.length_pos_iff.mpr hne)⟩
    have en : ((n : Nat) - (1 : Int)).toNat = n - 1 := by omega
    refine ⟨.ref a, rfl, a, xa, rfl, .inr (sameT s1 ha1), 1, (n : Nat), by rw [ha2], ⟨by omega, by omega, by omega, by omega⟩, ?_⟩
    rw [en]
    refine for_it (walk_rangeU (n := n - 1)) (fun i σ H2 => ∃ best x5 x6 x7 x8 x9 x10 x11, σ = [some (.ref a), some (.ref b), some (.ref ds), some (.ref dw), some best, x5, x6, x7, x8, x9, x10, x11] ∧ Same H1 H2 ∧ BestOk K H2 n m g best (Good starts s0 n i 0))
      ⟨.non, _, _, _, _, _, _, _, rfl, Same.refl _, .inl ⟨rfl, fun f _ hg => by
        obtain ⟨one, two, _, k1, k2, k3, k4⟩ := hg
        omega⟩⟩ (fun _ _ _ _ _ => trivial) (fun i y σ H3 H2 hi hP hY => ?_) (fun σ H2 hP => ?_)
    · obtain ⟨rfl, rfl⟩ := hY
      obtain ⟨best, x5, x6, x7, x8, x9, x10, x11, rfl, s2, hbest⟩ := hP
      refine ⟨.ref a, rfl, a, xa, rfl, .inr (sameT (s1.trans s2) ha1), 1, (n : Nat), by rw [ha2], ⟨by omega, by omega, by omega, by omega⟩, ?_⟩
      rw [en]
      refine for_it (walk_rangeU (n := n - 1)) (fun j σ H3 => ∃ best x6 x7 x8 x9 x10 x11, σ = [some (.ref a), some (.ref b), some (.ref ds), some (.ref dw), some best, some (.int ((i + 1 : Nat) : Int)), x6, x7, x8, x9, x10, x11] ∧ Same H1 H3 ∧ BestOk K H3 n m g best (Good starts s0 n i j))
        ⟨best, _, _, _, _, _, _, rfl, s2, hbest⟩ (fun _ _ _ _ _ => trivial) (fun j y σ H4 H3 hj hP hY => ?_) (fun σ H3 hP => ?_)
      · obtain ⟨rfl, rfl⟩ := hY
        clear hbest
        obtain ⟨best, x6, x7, x8, x9, x10, x11, rfl, s3, hbest⟩ := hP
        refine ⟨by show 1 ≤ sizeLine; decide, fun e he => ?_⟩
        have s4 := s3.trans (same_new (o := .lst [V.int 0]) he)
        refine ⟨.ref a, rfl, a, xa, rfl, .inr (sameT (s1.trans s4) ha1), e, (n : Nat), [.int 0], rfl, by rw [ha2], upd_same, by omega, by omega, ?_, fun dI hdI => ?_⟩
        · rw [Int.toNat_natCast, List.length_singleton, Nat.one_mul]
          exact sz (by omega)
        rw [rep_row n 0]
        have hbest5 := hbest.mono ((same_new (o := .lst [V.int 0]) he).trans (same_new (o := .lst (rowV n (fun _ _ => 0) 0)) hdI)) (fun f h => h)
        have s5 := s4.trans (same_new (o := .lst (rowV n (fun _ _ => 0) 0)) hdI)
        have hI5 : upd (upd H3 e (.lst [V.int 0])) dI (.lst (rowV n (fun _ _ => 0) 0)) dI = some (.lst (rowV n (fun _ _ => 0) 0)) := upd_same
        have nI : H1 dI = none := s4.free hdI
        have nI3 : H3 dI = none := (same_new (o := .lst [V.int 0]) he).free hdI
        have sB : Same H3 (upd (upd H3 e (.lst [V.int 0])) dI (.lst (rowV n (fun _ _ => 0) 0))) := (same_new he).trans (same_new hdI)
        generalize upd (upd H3 e (.lst [V.int 0])) dI (.lst (rowV n (fun _ _ => 0) 0)) = H5 at *
        clear hdI he s4
        refine ⟨.ref dw, rfl, dw, rfl, ⟨_, .inl (.inl (s5 _ _ hW))⟩, ?_⟩
        refine for_it (walk_list (xs := ws)) (fun k σ H6 => ∃ R x8 x9 x10, σ = [some (.ref a), some (.ref b), some (.ref ds), some (.ref dw), some best, some (.int ((i + 1 : Nat) : Int)), some (.int ((j + 1 : Nat) : Int)), some (.ref dI), x8, x9, x10, x11] ∧ Same H3 H6 ∧ Same H1 H6 ∧ H6 dI = some (.lst (rowV n R 0)) ∧ (∀ x, R 0 x < n) ∧
          ∀ f, Iso n m g f → Tw starts s0 f (i + 1) (j + 1) → ∀ x, x ∈ 0 :: (W.take k).map (·.1) → R 0 x = f x) ⟨fun _ _ => 0, _, _, _, rfl, sB, s5, hI5, fun x => G.pos, fun f hf _ x hx => by
            have : x = 0 := by simpa using hx
            rw [this, hf.zero G G']⟩ (fun k σ H6 _ h => by
              obtain ⟨_, _, _, _, _, _, s6, _⟩ := h
              exact .inl (.inl (s6 _ _ hW))) (fun k y σ H7 H6 hk hP hY => ?_) (fun σ H6 hP => ?_)
        · obtain ⟨rfl, hy⟩ := hY
          obtain ⟨R, x8, x9, x10, rfl, t6, s6, hI6, hlt, hag⟩ := hP
          have hkW : k < W.length := by
            have := hR.1
            unfold wl at this
            rw [List.length_map] at this
            omega
          have eW : W[k]? = some W[k] := List.getElem?_eq_getElem hkW
          obtain ⟨⟨x, bb, st⟩, hw⟩ : ∃ w, W[k] = w := ⟨_, rfl⟩
          rw [hw] at eW
          obtain ⟨r, rfl, hr3⟩ := hR.2 k y [x, bb, st] hy (by unfold wl; rw [List.getElem?_map, eW]; rfl)
          obtain ⟨ex, hss, hbb⟩ := wd.ok k x bb st eW
          have hsn := hst st hss
          have hbn : bb < n := by
            refine wd.lt bb ?_
            rw [wd.fd]
            rcases List.mem_cons.mp hbb with z | z
            · rw [z]; exact List.mem_cons_self
            · obtain ⟨w, hw1, hw2⟩ := List.mem_map.mp z
              exact List.mem_cons_of_mem _ (List.mem_map.mpr ⟨w, List.mem_of_mem_take hw1, hw2⟩)
          have hxn : x < n := by rw [ex]; exact G.lt _ _ hbn hsn.2
          refine ⟨r, _, rfl, sameT s6 hr3, rfl, _, _, rfl, _, _, rfl, _, _, rfl, rfl, ?_⟩
          have sx := s1.trans s6
          have hjv : (if st = s0 then i + 1 else j + 1) < n := by split <;> omega
          refine ix_tab (i := R 0 bb) (j := if st = s0 then i + 1 else j + 1) (hb.same sx) (hlt bb) hjv (var_is rfl) (fun Q q => ⟨.ref dI, rfl, .int (bb : Nat), rfl, dI, rowV n R 0, (bb : Nat), .int (R 0 bb : Nat), rfl, rfl, .inl (.inl hI6), atI_nat (rowV_at hbn), q⟩)
            (fun Q q => ⟨.int (st : Nat), rfl, .ref ds, rfl, ds, lN starts, 0, .int (s0 : Nat), rfl, rfl, .inl (.inl (s6 _ _ hS)), atI_nat (j := 0) (lN_at h0), rfl, _, rfl, ?_⟩) ?_
          · by_cases es : st = s0
            · subst es
              rw [decide_eq_true rfl]
              rw [if_pos rfl] at q
              exact iteT ⟨_, rfl, q⟩
            · have : decide (V.int (st : Nat) = V.int (s0 : Nat)) = false := decide_eq_false fun z => es (Int.ofNat.inj (V.int.inj z))
              rw [this]
              rw [if_neg es] at q
              exact iteF ⟨_, rfl, q⟩
          · refine ⟨.ref dI, rfl, .int (x : Nat), rfl, dI, rowV n R 0, (x : Nat), x, rfl, rfl, hI6, ixN_nat (by rw [rowV_len]; exact hxn), ?_⟩
            rw [row_set 0]
            refine ⟨fun p q => if p = 0 ∧ q = x then g (R 0 bb) (if st = s0 then i + 1 else j + 1) else R p q, _, _, _, rfl, fun c o z => ?_, fun c o z => ?_, upd_same, fun y => ?_, fun f hf ht y hy => ?_⟩
            · rw [upd_ne (ne_of_none z nI3)]
              exact t6 c o z
            · rw [upd_ne (ne_of_none z nI)]
              exact s6 c o z
            · show (if (0 : Nat) = 0 ∧ y = x then g (R 0 bb) (if st = s0 then i + 1 else j + 1) else R 0 y) < n
              by_cases e : y = x
              · rw [if_pos ⟨rfl, e⟩]
                exact G'.lt _ _ (hlt bb) hjv
              · rw [if_neg fun z => e z.2]
                exact hlt y
            · show (if (0 : Nat) = 0 ∧ y = x then g (R 0 bb) (if st = s0 then i + 1 else j + 1) else R 0 y) = f y
              have fst : f st = if st = s0 then i + 1 else j + 1 := by
                by_cases es : st = s0
                · rw [if_pos es, es]; exact ht.1
                · rw [if_neg es]; exact ht.2 st hss es
              by_cases e : y = x
              · rw [if_pos ⟨rfl, e⟩, e, ex, hf.hom bb st hbn hsn.2, hag f hf ht bb hbb, fst]
              · rw [if_neg fun z => e z.2]
                refine hag f hf ht y ?_
                rw [List.take_add_one, eW, List.map_append] at hy
                rcases List.mem_cons.mp hy with z | z
                · rw [z]; exact List.mem_cons_self
                · rcases List.mem_append.mp z with z | z
                  · exact List.mem_cons_of_mem _ z
                  · exact absurd (by simpa using z) e
        · obtain ⟨R, x8, x9, x10, rfl, t6, s6, hI6, hlt, hag⟩ := hP
          have hWl : W.length = ws.length := by
            have := hR.1
            unfold wl at this
            rw [List.length_map] at this
            exact this.symm
          have same : ∀ f, Iso n m g f → Tw starts s0 f (i + 1) (j + 1) → Same_n n (R 0) f := fun f hf ht x hx => by
            refine hag f hf ht x ?_
            rw [List.take_of_length_le (by omega), ← wd.fd]
            exact hall x hx
          have isoOf : ∀ f, Iso n m g f → Tw starts s0 f (i + 1) (j + 1) → Iso n m g (R 0) := fun f hf ht => hf.of_same (fun x hx => (same f hf ht x hx).symm) G.lt
          refine ⟨.ref dI, rfl, dI, _, rfl, .inl (.inl hI6), fun v hv => ?_⟩
          rw [rowV_tup]
          have s7 := s6.trans (same_new (o := .tup ((tupF n (R 0)).map V.int)) hv)
          have t7 := t6.trans (same_new (o := .tup ((tupF n (R 0)).map V.int)) hv)
          have hv7 : SqT K (upd H6 v (.tup ((tupF n (R 0)).map V.int))) v ((tupF n (R 0)).map V.int) := seqT_new
          generalize upd H6 v (.tup ((tupF n (R 0)).map V.int)) = H7 at *
          have hbest7 := hbest.mono t7 fun f h => h
          have sx := s1.trans s7
          have tz : (tupF n (R 0)).length ≤ 1000 := by rw [tupF_len]; omega
          rcases hbest7 with ⟨rfl, hno⟩ | ⟨pb, fb, rfl, hpb, hfb, hle⟩
          · refine ⟨.non, rfl, _, rfl, iteT (iteT ?_)⟩
            refine ⟨.ref a, rfl, .ref b, rfl, .ref v, rfl, a, b, .ref v, n, n, m, g, some (tupF n (R 0)), rfl, ha.same sx, hb.same sx, vd_ints hv7 tz, by omega, G.lt, fun H9 c s9 hc => ⟨c, rfl, ?_⟩⟩
            rw [isoT_some G.lt] at hc
            cases c with
            | true =>
              refine iteT ⟨.ref v, rfl, .ref v, _, _, _, _, _, _, rfl, s7.trans s9, .inr ⟨v, R 0, rfl, sameT s9 hv7, hc.mp rfl, fun f hf hg => ?_⟩⟩
              rcases good_step hg with z | z
              · exact absurd z (hno f hf)
              · exact .inl (same f hf z)
            | false =>
              refine iteF ⟨.non, _, _, _, _, _, _, rfl, s7.trans s9, .inl ⟨rfl, fun f hf hg => ?_⟩⟩
              rcases good_step hg with z | z
              · exact hno f hf z
              · have := hc.mpr (isoOf f hf z)
                cases this
          · refine ⟨.ref pb, rfl, _, rfl, iteF ?_⟩
            refine ⟨.ref v, rfl, .ref pb, rfl, v, pb, tupF n (R 0), tupF n fb, rfl, rfl, hv7, hpb, _, rfl, ite2 (fun e => ?_) (fun e => ?_)⟩
            · have hlx := lexLt_tup.mp e
              refine ⟨.ref a, rfl, .ref b, rfl, .ref v, rfl, a, b, .ref v, n, n, m, g, some (tupF n (R 0)), rfl, ha.same sx, hb.same sx, vd_ints hv7 tz, by omega, G.lt, fun H9 c s9 hc => ⟨c, rfl, ?_⟩⟩
              rw [isoT_some G.lt] at hc
              cases c with
              | true =>
                refine iteT ⟨.ref v, rfl, .ref v, _, _, _, _, _, _, rfl, s7.trans s9, .inr ⟨v, R 0, rfl, sameT s9 hv7, hc.mp rfl, fun f hf hg => ?_⟩⟩
                rcases good_step hg with z | z
                · rcases hle f hf z with y | y
                  · exact .inr (lex_same_r hlx y)
                  · exact .inr (lex_trans hlx y)
                · exact .inl (same f hf z)
              | false =>
                refine iteF ⟨.ref pb, _, _, _, _, _, _, rfl, s7.trans s9, .inr ⟨pb, fb, rfl, sameT s9 hpb, hfb, fun f hf hg => ?_⟩⟩
                rcases good_step hg with z | z
                · exact hle f hf z
                · have := hc.mpr (isoOf f hf z)
                  cases this
            · refine iteF ⟨.ref pb, _, _, _, _, _, _, rfl, s7, .inr ⟨pb, fb, rfl, hpb, hfb, fun f hf hg => ?_⟩⟩
              rcases good_step hg with z | z
              · exact hle f hf z
              · have sm := same f hf z
                rcases lex_total (n := n) (R 0) fb with y | y | y
                · exact .inl fun x hx => (y x hx).symm.trans (sm x hx)
                · exact absurd (lexLt_tup.mpr y) e
                · exact .inr (lex_same_r y sm)
      · clear hbest
        obtain ⟨best, x6, x7, x8, x9, x10, x11, rfl, s3, hbest⟩ := hP
        refine ⟨best, _, _, _, _, _, _, _, rfl, s3, hbest.mono (Same.refl _) fun f hg => ?_⟩
        obtain ⟨one, two, t, k1, k2, k3, k4⟩ := hg
        refine ⟨one, two, t, k1, k2, k3, ?_⟩
        omega
    · obtain ⟨best, x5, x6, x7, x8, x9, x10, x11, rfl, s2, hbest⟩ := hP
      have all : ∀ f, Iso n m g f → Good starts s0 n (n - 1) 0 f := fun f hf => by
        obtain ⟨one, two, k1, k2, k3, k4, t⟩ := tw_has hf G G' hst h0 hl2
        exact ⟨one, two, t, k1, k3, k4, .inl (by omega)⟩
      refine ⟨best, rfl, ?_⟩
      rcases hbest with ⟨rfl, hno⟩ | ⟨pb, fb, rfl, hpb, hfb, hle⟩
      · obtain ⟨f, hf⟩ := hex
        exact absurd (all f hf) (hno f hf)
      · exact q2 _ pb fb (s1.trans s2) hpb ⟨hfb, fun f hf => hle f hf (all f hf)⟩
end
end K38

set_option Elab.async false
set_option linter.all false
set_option maxRecDepth 100000
set_option maxHeartbeats 4000000
/-! E11: _law_wide. -/
namespace K38
open PySem PySem.Spec PyProof.Rows L2
theorem scWide : FnScope ["_law_table_here", "_law_goal", "error"] ["_law_table_here", "_law_goal"] (defScope sWide) := ⟨rfl, rfl, rfl, by decide +kernel, rfl, by decide +kernel, by decide +kernel⟩
section
variable {P : Program} {w : World} {K : PySem.W.Frag} {mg : Str → Option Value} {base : Heap} {fI fN fB : Addr} {fdI fdN fdB : FuncData}
def spWide (K : PySem.W.Frag) : Sp := fun vs H Q _ => ∃ (a b : Addr) (n n2 : Nat) (m g : Nat → Nat → Nat), vs = [.ref a, .ref b] ∧ TabAt K H a n m ∧ TabAt K H b n2 g ∧ Grp n m ∧ Grp n2 g ∧ n ≤ 60 ∧ n2 ≤ 60 ∧ (24 < n ∨ 24 < n2) ∧ ∀ H', Same H H' → Q (.str "wide") H'
theorem ok_wide {C fI0 fS fO fOs fC fF fM f : Addr} {fd fdS fdO fdOs fdC fdF fdM : FuncData} {tk : Tok} (L : Low K mg fI fN fB fdI fdN fdB) (T : RefTxt P K mg C fI0) (hW : mg "WIDEST" = some (.int 24 tk))
    (DS : Df K mg "need_share" sNeedShare ["table", "value"] fS fdS) (DO : Df K mg "order_of" sOrderOf ["table", "one"] fO fdO) (DOs : Df K mg "orders" sOrders ["table"] fOs fdOs)
    (DC : Df K mg "carried" sCarried ["table", "goal", "known"] fC fdC) (DF : Df K mg "first_matching" sFirstMatching ["table", "goal", "known"] fF fdF)
    (DM : Df K mg "matching" sMatching ["table", "goal"] fM fdM) (D : Df K mg "_law_wide" sWide ["_law_table_here", "_law_goal"] f fd) : FnOk P w K mg base CX0 32 f fd ["_law_table_here", "_law_goal"] (spWide K) := by
  refine D.F.ok (k := 31) scWide (fun vs H Q E h => ?_) (fun cdv A outer s H vs Q E hr h => ?_)
  · obtain ⟨a, b, n, n2, m, g, rfl, _⟩ := h
    rfl
  · obtain ⟨a, b, n, n2, m, g, rfl, ha, hb, G, G', hz, hz2, hwide, hq⟩ := h
    refine ⟨_, pss_cons (ps_try_as (i := 2) (tb := fun W => tDrop (tCallS (spMatching K C) (WE W) (tCons (tVar 0) (tCons (tVar 1) tNil)))) (ts := fun a cls d => tRet (tXf a cls d C "word" (tVar 2))) (Wout := fun _ _ _ _ => False) rfl rfl scWide.nd rfl rfl ⟨rfl, by decide, Or.inl T.gC⟩ takes0
          (fun W pn xe tk _ => pss_one (ps_expr (by exact (pe_callS (ok_matching L T hW DS DO DOs DC DF DM) hr rfl DM.g DM.F.kp DM.b (fun σ => passAt tk σ) (by exact (pa_cons (pv 0) (pa_cons (pv 1) pa_nil)))))))
          (fun a oe cls d pn hz hf => pss_one (ps_ret (by exact (pe_xf T.xf T.noN hz hf (pv 2))))))
      (pss_one (ps_ret pe_non)), ?_⟩
    refine ⟨.ref a, rfl, .ref b, rfl, a, b, n, n2, m, g, rfl, ha, hb, G, G', hz, hz2, fun _ d hd => ?_, fun h1 h2 => absurd hwide (by omega)⟩
    exact ⟨true, T.te, fun _ e _ => ⟨.ref e, rfl, rfl, rfl, d, [(("word" : Str), .str "wide")], .str "wide", rfl, upd_same, rfl, hq _ (same_new hd)⟩, fun z => Bool.noConfusion z⟩
end
end K38

set_option Elab.async false
set_option linter.all false
set_option maxRecDepth 100000
set_option maxHeartbeats 4000000
/-! M5: the menu's kinds: groups; alike just where an iso stands. -/
namespace K38
def allN (n : Nat) (p : Nat → Bool) : Bool := (List.range n).all p
theorem allN_at {n : Nat} {p : Nat → Bool} (h : allN n p = true) {i : Nat} (hi : i < n) : p i = true := List.all_eq_true.mp h i (List.mem_range.mpr hi)
theorem allN_of {n : Nat} {p : Nat → Bool} (h : ∀ i, i < n → p i = true) : allN n p = true := List.all_eq_true.mpr fun i hi => h i (List.mem_range.mp hi)
def grpB (n : Nat) (m : Nat → Nat → Nat) : Bool :=
  Nat.ble 1 n && allN n (fun i => allN n fun j => Nat.ble (m i j + 1) n) && allN n (fun i => allN n fun j => allN n fun k => Nat.beq (m (m i j) k) (m i (m j k))) && allN n (fun i => Nat.beq (m 0 i) i) && allN n (fun i => Nat.beq (m i 0) i) &&
    allN n fun x => (List.range n).any fun k => Nat.beq (pw m x (k + 1)) 0
theorem grp_of {n : Nat} {m : Nat → Nat → Nat} (h : grpB n m = true) : Grp n m := by
  unfold grpB at h
  simp only [Bool.and_eq_true] at h
  obtain ⟨⟨⟨⟨⟨h1, h2⟩, h3⟩, h4⟩, h5⟩, h6⟩ := h
  refine ⟨Nat.le_of_ble_eq_true h1, fun i j hi hj => Nat.le_of_ble_eq_true (allN_at (allN_at h2 hi) hj), fun i j k hi hj hk => Nat.eq_of_beq_eq_true (allN_at (allN_at (allN_at h3 hi) hj) hk), fun i hi => Nat.eq_of_beq_eq_true (allN_at h4 hi), fun i hi => Nat.eq_of_beq_eq_true (allN_at h5 hi), fun x hx => ?_⟩
  obtain ⟨k, hk, e⟩ := List.any_eq_true.mp (allN_at h6 hx)
  exact ⟨k, List.mem_range.mp hk, Nat.eq_of_beq_eq_true e⟩
abbrev nQ (q : Q4) : Nat := q.1 * q.2.1
abbrev mQ (q : Q4) : Nat → Nat → Nat := tabM q.1 q.2.1 q.2.2.1 q.2.2.2
def kindsL : List Q4 := [(4, 1, 1, 0), (2, 2, 1, 0), (2, 2, 1, 1), (6, 1, 1, 0), (3, 2, 1, 0), (3, 2, -1, 0), (2, 2, -1, 0), (1, 1, 1, 0), (2, 1, 1, 0), (3, 1, 1, 0), (5, 1, 1, 0), (4, 2, -1, 0), (4, 2, -1, 2), (8, 1, 1, 0), (4, 2, 1, 1), (4, 2, 1, 0), (4, 2, 1, 2),
  (6, 2, -1, 0), (6, 2, -1, 3), (12, 1, 1, 0), (7, 1, 1, 0), (8, 2, 1, 0), (8, 2, 5, 0)]
theorem kinds_grp : kindsL.all (fun q => grpB (nQ q) (mQ q)) = true := by decide +kernel
end K38

set_option Elab.async false
set_option linter.all false
set_option maxRecDepth 100000
set_option maxHeartbeats 4000000
/-! M6: the menu's pairs: alike just where an iso stands (the witnesses printed by gen_isos.py); the two big tables. -/
namespace K38
def odC (n : Nat) (m : Nat → Nat → Nat) (x : Nat) : Nat := ((List.range (n + 1)).find? fun k => Nat.ble 1 k && Nat.beq (pw m x k) 0).getD 0
theorem odC_eq {n : Nat} {m : Nat → Nat → Nat} (G : Grp n m) {x : Nat} (hx : x < n) : od n m x = odC n m x := by
  obtain ⟨h1, h2, h3, h4⟩ := G.od_is hx
  have e : (List.range (n + 1)).find? (fun k => Nat.ble 1 k && Nat.beq (pw m x k) 0) = some (od n m x) := by
    rw [List.find?_range_eq_some]
    refine ⟨?_, List.mem_range.mpr (by omega), fun j hj => ?_⟩
    · rw [Bool.and_eq_true]
      exact ⟨Nat.ble_eq_true_of_le h2, by rw [h3]; rfl⟩
    · rw [Bool.not_eq_true', Bool.and_eq_false_iff]
      by_cases z : 1 ≤ j
      · right
        have := h4 j z hj
        rw [← Bool.not_eq_true]
        exact fun y => this (Nat.eq_of_beq_eq_true y)
      · left
        rw [← Bool.not_eq_true]
        exact fun y => z (Nat.le_of_ble_eq_true y)
  unfold odC
  rw [e]
  rfl
def odsC (n : Nat) (m : Nat → Nat → Nat) : List Nat := (List.range n).map (odC n m)
theorem odsC_eq {n : Nat} {m : Nat → Nat → Nat} (G : Grp n m) : ods n m = (odsC n m).map fun x : Nat => (x : Int) := by
  unfold ods odsC
  rw [List.map_map]
  refine List.map_congr_left fun x hx => ?_
  rw [odC_eq G (List.mem_range.mp hx)]
  rfl
def commB (n : Nat) (m : Nat → Nat → Nat) : Bool := allN n fun i => allN n fun j => Nat.beq (m i j) (m j i)
theorem commB_iff {n : Nat} {m : Nat → Nat → Nat} : commB n m = true ↔ Comm n m := by
  constructor
  · intro h i j hi hj
    exact Nat.eq_of_beq_eq_true (allN_at (allN_at h hi) hj)
  · intro h
    exact allN_of fun i hi => allN_of fun j hj => by rw [h i j hi hj]; exact Nat.beq_refl _
/-- orders alike, both commuting or none -/
def AlikeP (n : Nat) (m : Nat → Nat → Nat) (n2 : Nat) (g : Nat → Nat → Nat) : Prop := (ods n m).Perm (ods n2 g) ∧ (Comm n m ↔ Comm n2 g)
def HasIso (n : Nat) (m : Nat → Nat → Nat) (n2 : Nat) (g : Nat → Nat → Nat) : Prop := n2 = n ∧ ∃ f, Iso n m g f
def alikeB (n : Nat) (m : Nat → Nat → Nat) (n2 : Nat) (g : Nat → Nat → Nat) : Bool := (odsC n m).isPerm (odsC n2 g) && (commB n m == commB n2 g)
theorem alike_of {n : Nat} {m : Nat → Nat → Nat} {n2 : Nat} {g : Nat → Nat → Nat} (G : Grp n m) (G' : Grp n2 g) (h : AlikeP n m n2 g) : alikeB n m n2 g = true := by
  obtain ⟨h1, h2⟩ := h
  unfold alikeB
  rw [Bool.and_eq_true, List.isPerm_iff]
  refine ⟨?_, ?_⟩
  · rw [odsC_eq G, odsC_eq G'] at h1
    have := h1.map Int.toNat
    rw [List.map_map, List.map_map] at this
    have e : ∀ l : List Nat, l.map (Int.toNat ∘ fun x : Nat => (x : Int)) = l := fun l => (List.map_congr_left (g := id) fun x _ => rfl).trans (List.map_id l)
    rw [e, e] at this
    exact this
  · rw [beq_iff_eq, Bool.eq_iff_iff, commB_iff, commB_iff]
    exact h2
def isoB (n : Nat) (m g : Nat → Nat → Nat) (f : List Nat) : Bool :=
  allN n (fun i => Nat.ble (f.getD i 0 + 1) n) && allN n (fun i => allN n fun j => !Nat.beq (f.getD i 0) (f.getD j 0) || Nat.beq i j) && allN n fun i => allN n fun j => Nat.beq (f.getD (m i j) 0) (g (f.getD i 0) (f.getD j 0))
theorem iso_of {n : Nat} {m g : Nat → Nat → Nat} {f : List Nat} (h : isoB n m g f = true) : Iso n m g fun i => f.getD i 0 := by
  unfold isoB at h
  simp only [Bool.and_eq_true] at h
  obtain ⟨⟨h1, h2⟩, h3⟩ := h
  refine ⟨fun i hi => Nat.le_of_ble_eq_true (allN_at h1 hi), fun i j hi hj e => ?_, fun i j hi hj => Nat.eq_of_beq_eq_true (allN_at (allN_at h3 hi) hj)⟩
  have := allN_at (allN_at h2 hi) hj
  have e : f.getD i 0 = f.getD j 0 := e
  rw [e, Nat.beq_refl, Bool.not_true, Bool.false_or] at this
  exact Nat.eq_of_beq_eq_true this
/-- a pair and its witness: an iso, or nothing where it is not alike -/
def pairB (p : Q4 × Q4) (f : List Nat) : Bool :=
  decide (p.1 ∈ kindsL) && decide (p.2 ∈ kindsL) && (match f with
    | [] => !alikeB (nQ p.1) (mQ p.1) (nQ p.2) (mQ p.2)
    | _ => Nat.beq (nQ p.2) (nQ p.1) && isoB (nQ p.1) (mQ p.1) (mQ p.2) f)
structure PairOk (p : Q4 × Q4) : Prop where
  k1 : p.1 ∈ kindsL
  k2 : p.2 ∈ kindsL
  ok : HasIso (nQ p.1) (mQ p.1) (nQ p.2) (mQ p.2) ∨ ¬ AlikeP (nQ p.1) (mQ p.1) (nQ p.2) (mQ p.2)
theorem kind_grp {q : Q4} (h : q ∈ kindsL) : Grp (nQ q) (mQ q) := grp_of (List.all_eq_true.mp kinds_grp q h)
theorem pair_of {p : Q4 × Q4} {f : List Nat} (h : pairB p f = true) : PairOk p := by
  unfold pairB at h
  simp only [Bool.and_eq_true, decide_eq_true_eq] at h
  obtain ⟨⟨h1, h2⟩, h3⟩ := h
  refine ⟨h1, h2, ?_⟩
  cases f with
  | nil =>
    right
    intro z
    have := alike_of (kind_grp h1) (kind_grp h2) z
    have h3 : (!alikeB (nQ p.1) (mQ p.1) (nQ p.2) (mQ p.2)) = true := h3
    rw [this] at h3
    cases h3
  | cons a r =>
    left
    have h3 : (Nat.beq (nQ p.2) (nQ p.1) && isoB (nQ p.1) (mQ p.1) (mQ p.2) (a :: r)) = true := h3
    rw [Bool.and_eq_true] at h3
    exact ⟨Nat.eq_of_beq_eq_true h3.1, _, iso_of h3.2⟩
theorem HasIso.symm {n : Nat} {m : Nat → Nat → Nat} {n2 : Nat} {g : Nat → Nat → Nat} (h : HasIso n m n2 g) (G : Grp n m) : HasIso n2 g n m := by
  obtain ⟨e, f, hf⟩ := h
  subst e
  obtain ⟨f', h1, _⟩ := hf.symm G
  exact ⟨rfl, f', h1⟩
theorem AlikeP.symm {n : Nat} {m : Nat → Nat → Nat} {n2 : Nat} {g : Nat → Nat → Nat} (h : AlikeP n m n2 g) : AlikeP n2 g n m := ⟨h.1.symm, h.2.symm⟩
theorem PairOk.symm {p : Q4 × Q4} (h : PairOk p) : PairOk (p.2, p.1) :=
  ⟨h.k2, h.k1, h.ok.imp (fun z => z.symm (kind_grp h.k1)) fun z y => z y.symm⟩
def witL : List (List Nat) := [[], [], [0, 2, 1, 3], [0, 4, 2, 3, 1, 5], [], [0, 1, 2, 3], [0, 1, 2, 3, 4, 5], [0, 1, 2, 3, 4, 5], [0], [0, 1], [0, 1, 2], [0, 1, 2, 3, 4], [], [0, 1, 2, 3, 4, 5, 6, 7], [0, 4, 1, 5, 2, 6, 3, 7], [0, 1, 2, 3, 5, 6, 7, 4], [], [], [], [], [0, 1, 2, 3, 4, 5], [0, 1, 2, 3], [0, 1, 2, 3, 4, 5, 6, 7, 8, 9, 10, 11], [], [0, 1, 2, 3, 4, 5, 6]]
theorem pairs_ok : (((((8, 2, 1, 0), (8, 2, 5, 0)) :: menu).zip witL).all fun x => pairB x.1 x.2) = true := by decide +kernel
theorem zip_left {α β : Type} : ∀ {xs : List α} {ys : List β}, xs.length ≤ ys.length → ∀ x ∈ xs, ∃ y, (x, y) ∈ xs.zip ys
  | [], _, _, x, h => by cases h
  | a :: xs, [], hl, x, h => by cases hl
  | a :: xs, b :: ys, hl, x, h => by
    rcases List.mem_cons.mp h with e | e
    · exact ⟨b, by rw [e]; exact List.mem_cons_self⟩
    · obtain ⟨y, hy⟩ := zip_left (xs := xs) (ys := ys) (by simpa using hl) x e
      exact ⟨y, List.mem_cons_of_mem _ hy⟩
theorem menu_ok {p : Q4 × Q4} (h : p ∈ menuAll) : PairOk p := by
  have base : ∀ p ∈ ((((8, 2, 1, 0), (8, 2, 5, 0)) :: menu) : List (Q4 × Q4)), PairOk p := fun p hp => by
    obtain ⟨f, hf⟩ := zip_left (ys := witL) (by decide) p hp
    exact pair_of (List.all_eq_true.mp pairs_ok _ hf)
  unfold menuAll at h
  rcases List.mem_append.mp h with z | z
  · exact base p z
  · obtain ⟨q, hq, rfl⟩ := List.mem_map.mp z
    exact (base q (List.mem_cons_of_mem _ hq)).symm
theorem kind_small : ∀ q ∈ kindsL, 0 < q.1 ∧ 0 < q.2.1 ∧ q.1 ≤ 24 ∧ q.2.1 ≤ 24 ∧ q.1 * q.2.1 ≤ 16 ∧ (-1000 ≤ q.2.2.1 ∧ q.2.2.1 ≤ 1000) := by decide +kernel
theorem grp24 : Grp (24 * 1) (tabM 24 1 1 0) := grp_of (by decide +kernel)
theorem grp25 : Grp (25 * 1) (tabM 25 1 1 0) := grp_of (by decide +kernel)
end K38

set_option Elab.async false
set_option linter.all false
set_option maxRecDepth 100000
set_option maxHeartbeats 2000000
/-! Ru10: f(k = v, ..) without a positional argument. -/
namespace K38
open PySem PySem.Spec PyProof.Rows L2
def gR {α : Type} (us ws : List α) : List α := match us with
  | [] => ws.reverse
  | _ :: _ => []
theorem vals_snoc {vs : List V} {us : List Value} {v : V} {u : Value} (h : Vals vs us) (r : RelV v u) : Vals (vs ++ [v]) (us ++ [u]) := by
  induction h with
  | nil => exact .cons r .nil
  | cons a _ ih => exact .cons a ih
theorem vals_rev {vs : List V} {us : List Value} (h : Vals vs us) : Vals vs.reverse us.reverse := by
  induction h with
  | nil => exact .nil
  | cons a _ ih =>
    rw [List.reverse_cons, List.reverse_cons]
    exact vals_snoc ih a
theorem kbR {K : PySem.W.Frag} {x qual : Str} {st : Stmt} {f : Addr} {fd : FuncData} {ps ks : List Str} (F : Fun K x qual st f fd) (hp : ps ≠ [])
    (h : ∀ (kV doc pm : Value) (an : Option Addr) (cdv ct : Value) (ws : List Value), ws.length = ps.length → bindArgs (PySem.W.fnOf x qual (defArgs st) (defBody st) (defScope st) .none kV doc pm an cdv ct) ⟨[], ks.zip ws⟩ = pure (ps.zip ws.reverse)) : KBinds K fd ps ks gR gR := by
  obtain ⟨oc, od, kV, doc, pm, an, cdv, ct, osl, rfl, lk, hcd⟩ := F.ex
  refine ⟨fun s us ws _ hl => ?_, fun {vs us zs ws} h1 h2 => ?_⟩
  · cases us with
    | nil => exact .of_eq (h _ _ _ _ _ _ ws (by rw [← hl]; exact (List.length_reverse).symm))
    | cons u r =>
      exfalso
      have hl : (0 : Nat) = ps.length := hl
      exact hp (List.length_eq_zero_iff.mp hl.symm)
  · cases h1 with
    | nil => exact vals_rev h2
    | cons _ _ => exact .nil
section
variable {X : Cx} {CX : CXT} {k : Nat} {f : Addr} {fd : FuncData} {ps ks : List Str} {sp : Sp} {E : XK} {x : Str} {p pos : Pos} {tk : TA} {g : List Value → List Value → List Value} {gV : List V → List V → List V} {kws : List Keyword}
theorem pe_callK0 (F : FnOk X.prog X.w X.K X.mg X.base CX k f fd ps sp) (hr : Room k X.A) (hg : Gl X x) (hm : X.mg x = some (.ref f)) (hk : PySem.W.keepIn X.K (.ref f) = true) (hb : KBinds X.K fd ps ks g gV) (hx : Passes CX X E) (hkw : PK X kws tk)
    (hall : (backToKw pos (keywordEach kws X.env)).all (·.1.isSome) = true := by rfl) (hks : (backToKw pos (keywordEach kws X.env)).filterMap (·.1) = ks := by rfl)
    (hdb : (x == ("__debug__" : Str)) = false := by decide) (hpl : ((backTo pos (starEach [] X.env)).any (·.1) || (backToKw pos (keywordEach kws X.env)).any (·.1.isNone)) = false := by rfl) :
    PE X (.Call (.Name x p) [] kws pos) (tCallK sp gV E tNil tk) := by
  refine ⟨fun pins s σ H Q I h => ?_⟩
  refine wpAny_Call_Name_kw (ld_glob I hg hm ?_ hdb)
  refine PySem.W.callWith_KW0 (h₀ := X.base) I.ok.mod.kin hk hall ?_ hpl
  refine thn (hkw.run pos pins s σ H _ I h) fun ws s2 ⟨zs, H2, I2, rz, q2⟩ => ⟨I2.kIn, ?_⟩
  rw [hks]
  exact run_fnk F hr hb hx I2 .nil rz q2
end
end K38

set_option linter.all false
/-! M7: inverses, plainly. -/
namespace K38
section
variable {n : Nat} {m : Nat → Nat → Nat} {F : Nat → Nat}
theorem inv_has (G : Grp n m) : ∃ F : Nat → Nat, ∀ i, i < n → F i < n ∧ m i (F i) = 0 := by
  refine ⟨fun i => if h : i < n then (G.inv h).choose else 0, fun i hi => ?_⟩
  show (if h : i < n then (G.inv h).choose else 0) < n ∧ m i (if h : i < n then (G.inv h).choose else 0) = 0
  rw [dif_pos hi]
  exact ⟨(G.inv hi).choose_spec.1, (G.inv hi).choose_spec.2.1⟩
theorem inv_first (G : Grp n m) (hF : ∀ i, i < n → F i < n ∧ m i (F i) = 0) {i k : Nat} (hi : i < n) (hk : k < F i) : m i k ≠ 0 := fun e => by
  have h := hF i hi
  have := G.cancel_l hi (by omega) h.1 (e.trans h.2.symm)
  omega
theorem inv_anti (G : Grp n m) (hF : ∀ i, i < n → F i < n ∧ m i (F i) = 0) {i j : Nat} (hi : i < n) (hj : j < n) : F (m i j) = m (F j) (F i) := by
  have h1 := hF i hi
  have h2 := hF j hj
  have hij := G.lt i j hi hj
  have h3 := hF _ hij
  have hk := G.lt _ _ h2.1 h1.1
  refine G.cancel_l hij h3.1 hk (h3.2.trans ?_)
  rw [G.assoc i j _ hi hj hk, ← G.assoc j (F j) (F i) hj h2.1 h1.1, h2.2, G.idl _ h1.1, h1.2]
theorem inv_opp (G : Grp n m) (hF : ∀ i, i < n → F i < n ∧ m i (F i) = 0) : Iso n m (fun i j => m j i) F :=
  ⟨fun i hi => (hF i hi).1, fun i j hi hj e => by
    have h1 := hF i hi
    have h2 := hF j hj
    have h3 : m j (F i) = 0 := by rw [e]; exact h2.2
    exact G.cancel_r h1.1 hi hj (h1.2.trans h3.symm), fun i j hi hj => inv_anti G hF hi hj⟩
theorem inv_inv (G : Grp n m) (hF : ∀ i, i < n → F i < n ∧ m i (F i) = 0) {i : Nat} (hi : i < n) : F (F i) = i := by
  have h1 := hF i hi
  have h2 := hF _ h1.1
  obtain ⟨y, h3, h4, h5⟩ := G.inv hi
  have : y = F i := G.cancel_l hi h3 h1.1 (h4.trans h1.2.symm)
  rw [this] at h5
  exact G.cancel_l h1.1 h2.1 hi (h2.2.trans h5.symm)
theorem inv_comm (G : Grp n m) (hF : ∀ i, i < n → F i < n ∧ m i (F i) = 0) : Iso n m m F ↔ Comm n m := by
  have ho := inv_opp G hF
  constructor
  · intro h i j hi hj
    have h1 := (hF i hi).1
    have h2 := (hF j hj).1
    have e := h.hom _ _ h1 h2
    rw [inv_anti G hF h1 h2, inv_inv G hF hi, inv_inv G hF hj] at e
    exact e.symm
  · intro h
    exact ⟨ho.lt, ho.inj, fun i j hi hj => by rw [inv_anti G hF hi hj, h _ _ (ho.lt j hj) (ho.lt i hi)]⟩
end
end K38

set_option Elab.async false
set_option linter.all false
set_option maxRecDepth 100000
set_option maxHeartbeats 4000000
/-! L0: the law's kit, what stands at each statement of the law (printed by gen_law.py). -/
namespace K38
open PySem PySem.Spec PyProof.Rows L2
def NL : List Str := ["_law_script", "_law_heap_here", "_law_kind", "_law_other", "_law_table_here", "_law_goal", "_law_value", "_law_many", "_law_orders_here", "_law_others", "_law_is_alike", "_law_one", "_law_backs", "_law_at", "_law_place", "_law_thing", "_law_swapped", "_law_spoilt", "_law_some", "_law_size", "_law_row", "_law_wide_here", "_law_near"]
theorem scLaw : FnScope NL ["_law_script"] (defScope sLaw) := ⟨rfl, rfl, rfl, by decide +kernel, rfl, by decide +kernel, by decide +kernel⟩
structure Kit (P : Program) (K : PySem.W.Frag) (mg : Str → Option Value) (fa : Nat → Addr) (fd : Nat → FuncData) (C fRI : Addr) (tk : Tok) : Prop where
  B : Bn mg
  T : RefTxt P K mg C fRI
  hW : mg "WIDEST" = some (.int 24 tk)
  d5 : Df K mg "is_integer" sIsInteger ["value"] (fa 5) (fd 5)
  d6 : Df K mg "is_number" sIsNumber ["value"] (fa 6) (fd 6)
  d7 : Df K mg "is_below" sIsBelow ["value", "bound"] (fa 7) (fd 7)
  d8 : Df K mg "is_row" sIsRow ["value", "size", "bound"] (fa 8) (fd 8)
  d11 : Df K mg "need_share" sNeedShare ["table", "value"] (fa 11) (fd 11)
  d12 : Df K mg "inverse" sInverse ["table", "one"] (fa 12) (fd 12)
  d13 : Df K mg "order_of" sOrderOf ["table", "one"] (fa 13) (fd 13)
  d14 : Df K mg "opposite" sOpposite ["table"] (fa 14) (fd 14)
  d15 : Df K mg "is_matching" sIsMatching ["table", "goal", "value"] (fa 15) (fd 15)
  d16 : Df K mg "orders" sOrders ["table"] (fa 16) (fd 16)
  d17 : Df K mg "carried" sCarried ["table", "goal", "known"] (fa 17) (fd 17)
  d18 : Df K mg "first_matching" sFirstMatching ["table", "goal", "known"] (fa 18) (fd 18)
  d19 : Df K mg "matching" sMatching ["table", "goal"] (fa 19) (fd 19)
  d21 : Df K mg "_law_heap" sHeap ["_law_script", "_law_base"] (fa 21) (fd 21)
  d22 : Df K mg "_law_draw" sDraw ["_law_heap_here", "_law_many"] (fa 22) (fd 22)
  d23 : Df K mg "_law_pick" sPick ["_law_heap_here", "_law_some"] (fa 23) (fd 23)
  d24 : Df K mg "_law_order" sOrder ["_law_heap_here", "_law_many"] (fa 24) (fd 24)
  d25 : Df K mg "_law_table" sTable ["_law_kind"] (fa 25) (fd 25)
  d26 : Df K mg "_law_renamed" sRenamed ["_law_table_here", "_law_names"] (fa 26) (fd 26)
  d27 : Df K mg "_law_kinds" sKinds ["_law_heap_here"] (fa 27) (fd 27)
  d28 : Df K mg "_law_named" sNamed ["_law_heap_here", "_law_kind"] (fa 28) (fd 28)
  d29 : Df K mg "_law_orders" sLOrders ["_law_table_here"] (fa 29) (fd 29)
  d30 : Df K mg "_law_commutes" sCommutes ["_law_table_here"] (fa 30) (fd 30)
  d31 : Df K mg "_law_leads" sLeads ["_law_table_here", "_law_goal", "_law_value"] (fa 31) (fd 31)
  d32 : Df K mg "_law_first" sFirst ["_law_table_here", "_law_goal"] (fa 32) (fd 32)
  d33 : Df K mg "_law_words" sWords ["_law_table_here"] (fa 33) (fd 33)
  d34 : Df K mg "_law_least" sLeast ["_law_table_here", "_law_goal"] (fa 34) (fd 34)
  d35 : Df K mg "_law_wide" sWide ["_law_table_here", "_law_goal"] (fa 35) (fd 35)
section
variable {P : Program} {w : World} {K : PySem.W.Frag} {mg : Str → Option Value} {base : Heap} {fa : Nat → Addr} {fd : Nat → FuncData} {C fRI : Addr} {tk : Tok}
theorem Kit.low (k : Kit P K mg fa fd C fRI tk) : Low K mg (fa 5) (fa 6) (fa 7) (fd 5) (fd 6) (fd 7) := ⟨k.B, k.d5, k.d6, k.d7⟩
theorem Kit.matching (k : Kit P K mg fa fd C fRI tk) : FnOk P w K mg base (L2.CX P w) 31 (fa 19) (fd 19) ["table", "goal"] (spMatching K C) := ok_matching k.low k.T k.hW k.d11 k.d13 k.d16 k.d17 k.d18 k.d19
theorem Kit.isMatching (k : Kit P K mg fa fd C fRI tk) : FnOk P w K mg base CX0 5 (fa 15) (fd 15) ["table", "goal", "value"] (spIsMatching K) := ok_isMatching k.low k.d8 k.d15
theorem Kit.leads (k : Kit P K mg fa fd C fRI tk) : FnOk P w K mg base CX0 2 (fa 31) (fd 31) ["_law_table_here", "_law_goal", "_law_value"] (spIsMatching K) := ok_leads k.B k.d31
theorem Kit.inverse (k : Kit P K mg fa fd C fRI tk) : FnOk P w K mg base CX0 5 (fa 12) (fd 12) ["table", "one"] (spInverse K) := ok_inverse k.low k.d11 k.d12
theorem Kit.opposite (k : Kit P K mg fa fd C fRI tk) : FnOk P w K mg base CX0 1 (fa 14) (fd 14) ["table"] (spOpposite K) := ok_opposite k.B k.d14
theorem Kit.heap (k : Kit P K mg fa fd C fRI tk) : FnOk P w K mg base CX0 1 (fa 21) (fd 21) ["_law_script", "_law_base"] (spHeap K) := ok_heap k.B k.d21
theorem Kit.draw (k : Kit P K mg fa fd C fRI tk) : FnOk P w K mg base CX0 1 (fa 22) (fd 22) ["_law_heap_here", "_law_many"] spDraw := ok_draw k.B k.d22
theorem Kit.pick (k : Kit P K mg fa fd C fRI tk) : FnOk P w K mg base CX0 2 (fa 23) (fd 23) ["_law_heap_here", "_law_some"] (spPick K) := ok_pick k.B k.d22 k.d23
theorem Kit.order (k : Kit P K mg fa fd C fRI tk) : FnOk P w K mg base CX0 2 (fa 24) (fd 24) ["_law_heap_here", "_law_many"] spOrder := ok_order k.B k.d22 k.d24
theorem Kit.table (k : Kit P K mg fa fd C fRI tk) : FnOk P w K mg base CX0 1 (fa 25) (fd 25) ["_law_kind"] (spTable K) := ok_table k.B k.d25
theorem Kit.kinds (k : Kit P K mg fa fd C fRI tk) : FnOk P w K mg base CX0 3 (fa 27) (fd 27) ["_law_heap_here"] (spKinds K) := ok_kinds k.B k.d22 k.d23 k.d27
theorem Kit.named (k : Kit P K mg fa fd C fRI tk) : FnOk P w K mg base CX0 3 (fa 28) (fd 28) ["_law_heap_here", "_law_kind"] (spNamed K) := ok_named k.B k.d22 k.d24 k.d25 k.d26 k.d28
theorem Kit.lorders (k : Kit P K mg fa fd C fRI tk) : FnOk P w K mg base CX0 1 (fa 29) (fd 29) ["_law_table_here"] (spLOrders K) := ok_lorders k.B k.d29
theorem Kit.commutes (k : Kit P K mg fa fd C fRI tk) : FnOk P w K mg base CX0 1 (fa 30) (fd 30) ["_law_table_here"] (spCommutes K) := ok_commutes k.B k.d30
theorem Kit.first (k : Kit P K mg fa fd C fRI tk) : FnOk P w K mg base CX0 3 (fa 32) (fd 32) ["_law_table_here", "_law_goal"] (spLFirst K) := ok_lfirst k.B k.d31 k.d32
theorem Kit.least (k : Kit P K mg fa fd C fRI tk) : FnOk P w K mg base CX0 3 (fa 34) (fd 34) ["_law_table_here", "_law_goal"] (spLeast K) := ok_least k.B k.d31 k.d33 k.d34
theorem Kit.wide (k : Kit P K mg fa fd C fRI tk) : FnOk P w K mg base CX0 32 (fa 35) (fd 35) ["_law_table_here", "_law_goal"] (spWide K) := ok_wide k.low k.T k.hW k.d11 k.d13 k.d16 k.d17 k.d18 k.d19 k.d35
end
theorem imp_pss {X : Cx} {st : List Stmt} {t t' : TS} (h : PSs X st t) (i : ∀ D σ H, t' D σ H → t D σ H) : PSs X st t' := ⟨fun pins s σ H D I q => h.run pins s σ H D I (i D σ H q)⟩
/-- the law's own body from its j-th statement on -/
abbrev lawT (j : Nat) : List Stmt := (defBody sLaw).drop j
abbrev lawX (P : Program) (w : World) (K : PySem.W.Frag) (mg : Str → Option Value) (base : Heap) (f : Addr) (cdv : Value) (A : Around) (outer : List Env) (s : Shared) (H0 : Hp) (E : XK) : Cx := (cxOf CX0 P w K mg base NL "law" (defScope sLaw) f cdv A outer s H0 E).nox
def Rt (D : Ends) : Prop := ∀ H', D.rt (.bl true) H'
structure Env1 (K : PySem.W.Frag) (H : Hp) (h l a b : Addr) (n n2 : Nat) (m g : Nat → Nat → Nat) : Prop where
  hp : HpAt H h l
  ta : TabZ K H a n m
  tb : TabZ K H b n2 g
  G : Grp n m
  G' : Grp n2 g
  z : n ≤ 16
  z2 : n2 ≤ 16
  ok : HasIso n m n2 g ∨ ¬ AlikeP n m n2 g
section
variable {K : PySem.W.Frag} {H H' : Hp} {h l a b : Addr} {n n2 : Nat} {m g : Nat → Nat → Nat}
theorem Env1.same (e : Env1 K H h l a b n n2 m g) (s : Same H H') : Env1 K H' h l a b n n2 m g := ⟨e.hp.same s, e.ta.same s, e.tb.same s, e.G, e.G', e.z, e.z2, e.ok⟩
theorem Env1.but (e : Env1 K H h l a b n n2 m g) (x : HpAt H' h l) (s : But h l H H') : Env1 K H' h l a b n n2 m g := ⟨x, tabZ_but e.ta e.hp s, tabZ_but e.tb e.hp s, e.G, e.G', e.z, e.z2, e.ok⟩
theorem HasIso.alike (G : Grp n m) (G' : Grp n2 g) (x : HasIso n m n2 g) : AlikeP n m n2 g := by
  obtain ⟨e, f, hf⟩ := x
  subst e
  exact ⟨hf.ods G G', hf.comm G⟩
theorem Env1.has (e : Env1 K H h l a b n n2 m g) : HasIso n m n2 g ↔ AlikeP n m n2 g := ⟨fun x => x.alike e.G e.G', fun x => e.ok.resolve_right fun z => z x⟩
end
/-- what matching has given -/
def ValOk (K : PySem.W.Frag) (H : Hp) (v : V) (n : Nat) (m : Nat → Nat → Nat) (n2 : Nat) (g : Nat → Nat → Nat) : Prop :=
  (v = .non ∧ NoIso n m n2 g) ∨ ∃ p f, v = .ref p ∧ n2 = n ∧ SqT K H p ((tupF n f).map V.int) ∧ Least n (Iso n m g) f
theorem ValOk.same {K : PySem.W.Frag} {H H' : Hp} {v : V} {n : Nat} {m : Nat → Nat → Nat} {n2 : Nat} {g : Nat → Nat → Nat} (x : ValOk K H v n m n2 g) (s : Same H H') : ValOk K H' v n m n2 g := by
  rcases x with ⟨h1, h2⟩ | ⟨p, f, h1, h2, h3, h4⟩
  · exact .inl ⟨h1, h2⟩
  · exact .inr ⟨p, f, h1, h2, sameT s h3, h4⟩
theorem NoIso.not {n : Nat} {m : Nat → Nat → Nat} {n2 : Nat} {g : Nat → Nat → Nat} (x : NoIso n m n2 g) : ¬ HasIso n m n2 g := fun ⟨e, f, hf⟩ => x e f hf
theorem VD.known {K : PySem.W.Frag} {H : Hp} {v : V} {o : Option (List Int)} (x : VD K H v o) : ∃ t, Known K H v t := by
  rcases x with ⟨_, h⟩ | ⟨a, xs, h1, h2, _⟩
  · exact ⟨_, h⟩
  · rw [h1]; exact ⟨_, known_tup h2⟩
def R0 (K : PySem.W.Frag) : TS := fun D σ H => Rt D ∧ ∃ (a : Addr) (ns : List Int) (x1 x2 x3 x4 x5 x6 x7 x8 x9 x10 x11 x12 x13 x14 x15 x16 x17 x18 x19 x20 x21 x22 : Option V), σ = [some (.ref a), x1, x2, x3, x4, x5, x6, x7, x8, x9, x10, x11, x12, x13, x14, x15, x16, x17, x18, x19, x20, x21, x22] ∧ SqL K H a (ns.map V.int) ∧ ns.length ≤ 1000
theorem R0.mk {K : PySem.W.Frag} {D : Ends} {H : Hp} {a : Addr} {ns : List Int} {x1 x2 x3 x4 x5 x6 x7 x8 x9 x10 x11 x12 x13 x14 x15 x16 x17 x18 x19 x20 x21 x22 : Option V} (rt : Rt D) (e0 : SqL K H a (ns.map V.int)) (e1 : ns.length ≤ 1000) : R0 K D [some (.ref a), x1, x2, x3, x4, x5, x6, x7, x8, x9, x10, x11, x12, x13, x14, x15, x16, x17, x18, x19, x20, x21, x22] H := ⟨rt, a, ns, x1, x2, x3, x4, x5, x6, x7, x8, x9, x10, x11, x12, x13, x14, x15, x16, x17, x18, x19, x20, x21, x22, rfl, e0, e1⟩
def R1 (K : PySem.W.Frag) : TS := fun D σ H => Rt D ∧ ∃ (h l : Addr) (x0 x2 x3 x4 x5 x6 x7 x8 x9 x10 x11 x12 x13 x14 x15 x16 x17 x18 x19 x20 x21 x22 : Option V), σ = [x0, some (.ref h), x2, x3, x4, x5, x6, x7, x8, x9, x10, x11, x12, x13, x14, x15, x16, x17, x18, x19, x20, x21, x22] ∧ HpAt H h l
theorem R1.mk {K : PySem.W.Frag} {D : Ends} {H : Hp} {h l : Addr} {x0 x2 x3 x4 x5 x6 x7 x8 x9 x10 x11 x12 x13 x14 x15 x16 x17 x18 x19 x20 x21 x22 : Option V} (rt : Rt D) (e0 : HpAt H h l) : R1 K D [x0, some (.ref h), x2, x3, x4, x5, x6, x7, x8, x9, x10, x11, x12, x13, x14, x15, x16, x17, x18, x19, x20, x21, x22] H := ⟨rt, h, l, x0, x2, x3, x4, x5, x6, x7, x8, x9, x10, x11, x12, x13, x14, x15, x16, x17, x18, x19, x20, x21, x22, rfl, e0⟩
def R2 (K : PySem.W.Frag) : TS := fun D σ H => Rt D ∧ ∃ (h l k1 k2 : Addr) (q : Q4 × Q4) (x0 x4 x5 x6 x7 x8 x9 x10 x11 x12 x13 x14 x15 x16 x17 x18 x19 x20 x21 x22 : Option V), σ = [x0, some (.ref h), some (.ref k1), some (.ref k2), x4, x5, x6, x7, x8, x9, x10, x11, x12, x13, x14, x15, x16, x17, x18, x19, x20, x21, x22] ∧ HpAt H h l ∧ KindQ K H k1 q.1 ∧ KindQ K H k2 q.2 ∧ PairOk q
theorem R2.mk {K : PySem.W.Frag} {D : Ends} {H : Hp} {h l k1 k2 : Addr} {q : Q4 × Q4} {x0 x4 x5 x6 x7 x8 x9 x10 x11 x12 x13 x14 x15 x16 x17 x18 x19 x20 x21 x22 : Option V} (rt : Rt D) (e0 : HpAt H h l) (e1 : KindQ K H k1 q.1) (e2 : KindQ K H k2 q.2) (e3 : PairOk q) : R2 K D [x0, some (.ref h), some (.ref k1), some (.ref k2), x4, x5, x6, x7, x8, x9, x10, x11, x12, x13, x14, x15, x16, x17, x18, x19, x20, x21, x22] H := ⟨rt, h, l, k1, k2, q, x0, x4, x5, x6, x7, x8, x9, x10, x11, x12, x13, x14, x15, x16, x17, x18, x19, x20, x21, x22, rfl, e0, e1, e2, e3⟩
def R3 (K : PySem.W.Frag) : TS := fun D σ H => Rt D ∧ ∃ (h l a b : Addr) (n n2 : Nat) (m g : Nat → Nat → Nat) (x0 x2 x3 x6 x7 x8 x9 x10 x11 x12 x13 x14 x15 x16 x17 x18 x19 x20 x21 x22 : Option V), σ = [x0, some (.ref h), x2, x3, some (.ref a), some (.ref b), x6, x7, x8, x9, x10, x11, x12, x13, x14, x15, x16, x17, x18, x19, x20, x21, x22] ∧ Env1 K H h l a b n n2 m g
theorem R3.mk {K : PySem.W.Frag} {D : Ends} {H : Hp} {h l a b : Addr} {n n2 : Nat} {m g : Nat → Nat → Nat} {x0 x2 x3 x6 x7 x8 x9 x10 x11 x12 x13 x14 x15 x16 x17 x18 x19 x20 x21 x22 : Option V} (rt : Rt D) (e0 : Env1 K H h l a b n n2 m g) : R3 K D [x0, some (.ref h), x2, x3, some (.ref a), some (.ref b), x6, x7, x8, x9, x10, x11, x12, x13, x14, x15, x16, x17, x18, x19, x20, x21, x22] H := ⟨rt, h, l, a, b, n, n2, m, g, x0, x2, x3, x6, x7, x8, x9, x10, x11, x12, x13, x14, x15, x16, x17, x18, x19, x20, x21, x22, rfl, e0⟩
def R4 (K : PySem.W.Frag) : TS := fun D σ H => Rt D ∧ ∃ (h l a b : Addr) (n n2 : Nat) (m g : Nat → Nat → Nat) (v : V) (x0 x2 x3 x8 x9 x10 x11 x12 x13 x14 x15 x16 x17 x18 x19 x20 x21 x22 : Option V), σ = [x0, some (.ref h), x2, x3, some (.ref a), some (.ref b), some (v), some (.int (n : Nat)), x8, x9, x10, x11, x12, x13, x14, x15, x16, x17, x18, x19, x20, x21, x22] ∧ Env1 K H h l a b n n2 m g ∧ ValOk K H v n m n2 g
theorem R4.mk {K : PySem.W.Frag} {D : Ends} {H : Hp} {h l a b : Addr} {n n2 : Nat} {m g : Nat → Nat → Nat} {v : V} {x0 x2 x3 x8 x9 x10 x11 x12 x13 x14 x15 x16 x17 x18 x19 x20 x21 x22 : Option V} (rt : Rt D) (e0 : Env1 K H h l a b n n2 m g) (e1 : ValOk K H v n m n2 g) : R4 K D [x0, some (.ref h), x2, x3, some (.ref a), some (.ref b), some (v), some (.int (n : Nat)), x8, x9, x10, x11, x12, x13, x14, x15, x16, x17, x18, x19, x20, x21, x22] H := ⟨rt, h, l, a, b, n, n2, m, g, v, x0, x2, x3, x8, x9, x10, x11, x12, x13, x14, x15, x16, x17, x18, x19, x20, x21, x22, rfl, e0, e1⟩
def R5 (K : PySem.W.Frag) : TS := fun D σ H => Rt D ∧ ∃ (h l a b : Addr) (n n2 : Nat) (m g : Nat → Nat → Nat) (v : V) (o1 o2 : Addr) (x0 x2 x3 x10 x11 x12 x13 x14 x15 x16 x17 x18 x19 x20 x21 x22 : Option V), σ = [x0, some (.ref h), x2, x3, some (.ref a), some (.ref b), some (v), some (.int (n : Nat)), some (.ref o1), some (.ref o2), x10, x11, x12, x13, x14, x15, x16, x17, x18, x19, x20, x21, x22] ∧ Env1 K H h l a b n n2 m g ∧ ValOk K H v n m n2 g ∧ H o1 = some (.lst ((ods n m).map V.int)) ∧ H o2 = some (.lst ((ods n2 g).map V.int))
theorem R5.mk {K : PySem.W.Frag} {D : Ends} {H : Hp} {h l a b : Addr} {n n2 : Nat} {m g : Nat → Nat → Nat} {v : V} {o1 o2 : Addr} {x0 x2 x3 x10 x11 x12 x13 x14 x15 x16 x17 x18 x19 x20 x21 x22 : Option V} (rt : Rt D) (e0 : Env1 K H h l a b n n2 m g) (e1 : ValOk K H v n m n2 g) (e2 : H o1 = some (.lst ((ods n m).map V.int))) (e3 : H o2 = some (.lst ((ods n2 g).map V.int))) : R5 K D [x0, some (.ref h), x2, x3, some (.ref a), some (.ref b), some (v), some (.int (n : Nat)), some (.ref o1), some (.ref o2), x10, x11, x12, x13, x14, x15, x16, x17, x18, x19, x20, x21, x22] H := ⟨rt, h, l, a, b, n, n2, m, g, v, o1, o2, x0, x2, x3, x10, x11, x12, x13, x14, x15, x16, x17, x18, x19, x20, x21, x22, rfl, e0, e1, e2, e3⟩
def R6 (K : PySem.W.Frag) : TS := fun D σ H => Rt D ∧ ∃ (h l a b : Addr) (n n2 : Nat) (m g : Nat → Nat → Nat) (v : V) (c : Bool) (x0 x2 x3 x8 x9 x11 x12 x13 x14 x15 x16 x17 x18 x19 x20 x21 x22 : Option V), σ = [x0, some (.ref h), x2, x3, some (.ref a), some (.ref b), some (v), some (.int (n : Nat)), x8, x9, some (.bl c), x11, x12, x13, x14, x15, x16, x17, x18, x19, x20, x21, x22] ∧ Env1 K H h l a b n n2 m g ∧ ValOk K H v n m n2 g ∧ (c = true ↔ AlikeP n m n2 g)
theorem R6.mk {K : PySem.W.Frag} {D : Ends} {H : Hp} {h l a b : Addr} {n n2 : Nat} {m g : Nat → Nat → Nat} {v : V} {c : Bool} {x0 x2 x3 x8 x9 x11 x12 x13 x14 x15 x16 x17 x18 x19 x20 x21 x22 : Option V} (rt : Rt D) (e0 : Env1 K H h l a b n n2 m g) (e1 : ValOk K H v n m n2 g) (e2 : (c = true ↔ AlikeP n m n2 g)) : R6 K D [x0, some (.ref h), x2, x3, some (.ref a), some (.ref b), some (v), some (.int (n : Nat)), x8, x9, some (.bl c), x11, x12, x13, x14, x15, x16, x17, x18, x19, x20, x21, x22] H := ⟨rt, h, l, a, b, n, n2, m, g, v, c, x0, x2, x3, x8, x9, x11, x12, x13, x14, x15, x16, x17, x18, x19, x20, x21, x22, rfl, e0, e1, e2⟩
def R11 (K : PySem.W.Frag) : TS := fun D σ H => Rt D ∧ ∃ (h l a b : Addr) (n n2 : Nat) (m g : Nat → Nat → Nat) (v : V) (q : Addr) (f : Nat → Nat) (x0 x2 x3 x8 x9 x10 x11 x13 x14 x15 x16 x17 x18 x19 x20 x21 x22 : Option V), σ = [x0, some (.ref h), x2, x3, some (.ref a), some (.ref b), some (v), some (.int (n : Nat)), x8, x9, x10, x11, some (.ref q), x13, x14, x15, x16, x17, x18, x19, x20, x21, x22] ∧ Env1 K H h l a b n n2 m g ∧ ValOk K H v n m n2 g ∧ SqT K H q ((tupF n f).map V.int) ∧ ∀ i, i < n → f i < n ∧ m i (f i) = 0
theorem R11.mk {K : PySem.W.Frag} {D : Ends} {H : Hp} {h l a b : Addr} {n n2 : Nat} {m g : Nat → Nat → Nat} {v : V} {q : Addr} {f : Nat → Nat} {x0 x2 x3 x8 x9 x10 x11 x13 x14 x15 x16 x17 x18 x19 x20 x21 x22 : Option V} (rt : Rt D) (e0 : Env1 K H h l a b n n2 m g) (e1 : ValOk K H v n m n2 g) (e2 : SqT K H q ((tupF n f).map V.int)) (e3 : ∀ i, i < n → f i < n ∧ m i (f i) = 0) : R11 K D [x0, some (.ref h), x2, x3, some (.ref a), some (.ref b), some (v), some (.int (n : Nat)), x8, x9, x10, x11, some (.ref q), x13, x14, x15, x16, x17, x18, x19, x20, x21, x22] H := ⟨rt, h, l, a, b, n, n2, m, g, v, q, f, x0, x2, x3, x8, x9, x10, x11, x13, x14, x15, x16, x17, x18, x19, x20, x21, x22, rfl, e0, e1, e2, e3⟩
def R12 (K : PySem.W.Frag) : TS := fun D σ H => Rt D ∧ ∃ (h l a b : Addr) (n n2 : Nat) (m g : Nat → Nat → Nat) (v : V) (x0 x2 x3 x8 x9 x10 x11 x12 x13 x14 x15 x16 x17 x18 x19 x20 x21 x22 : Option V), σ = [x0, some (.ref h), x2, x3, some (.ref a), some (.ref b), some (v), some (.int (n : Nat)), x8, x9, x10, x11, x12, x13, x14, x15, x16, x17, x18, x19, x20, x21, x22] ∧ Env1 K H h l a b n n2 m g ∧ ValOk K H v n m n2 g
theorem R12.mk {K : PySem.W.Frag} {D : Ends} {H : Hp} {h l a b : Addr} {n n2 : Nat} {m g : Nat → Nat → Nat} {v : V} {x0 x2 x3 x8 x9 x10 x11 x12 x13 x14 x15 x16 x17 x18 x19 x20 x21 x22 : Option V} (rt : Rt D) (e0 : Env1 K H h l a b n n2 m g) (e1 : ValOk K H v n m n2 g) : R12 K D [x0, some (.ref h), x2, x3, some (.ref a), some (.ref b), some (v), some (.int (n : Nat)), x8, x9, x10, x11, x12, x13, x14, x15, x16, x17, x18, x19, x20, x21, x22] H := ⟨rt, h, l, a, b, n, n2, m, g, v, x0, x2, x3, x8, x9, x10, x11, x12, x13, x14, x15, x16, x17, x18, x19, x20, x21, x22, rfl, e0, e1⟩
def R13 (K : PySem.W.Frag) : TS := fun D σ H => Rt D ∧ ∃ (h l a b : Addr) (n n2 : Nat) (m g : Nat → Nat → Nat) (p : Addr) (f : Nat → Nat) (x0 x2 x3 x8 x9 x10 x11 x12 x13 x14 x15 x16 x17 x18 x19 x20 x21 x22 : Option V), σ = [x0, some (.ref h), x2, x3, some (.ref a), some (.ref b), some (.ref p), some (.int (n : Nat)), x8, x9, x10, x11, x12, x13, x14, x15, x16, x17, x18, x19, x20, x21, x22] ∧ Env1 K H h l a b n n2 m g ∧ SqT K H p ((tupF n f).map V.int)
theorem R13.mk {K : PySem.W.Frag} {D : Ends} {H : Hp} {h l a b : Addr} {n n2 : Nat} {m g : Nat → Nat → Nat} {p : Addr} {f : Nat → Nat} {x0 x2 x3 x8 x9 x10 x11 x12 x13 x14 x15 x16 x17 x18 x19 x20 x21 x22 : Option V} (rt : Rt D) (e0 : Env1 K H h l a b n n2 m g) (e1 : SqT K H p ((tupF n f).map V.int)) : R13 K D [x0, some (.ref h), x2, x3, some (.ref a), some (.ref b), some (.ref p), some (.int (n : Nat)), x8, x9, x10, x11, x12, x13, x14, x15, x16, x17, x18, x19, x20, x21, x22] H := ⟨rt, h, l, a, b, n, n2, m, g, p, f, x0, x2, x3, x8, x9, x10, x11, x12, x13, x14, x15, x16, x17, x18, x19, x20, x21, x22, rfl, e0, e1⟩
def R14 (K : PySem.W.Frag) : TS := fun D σ H => Rt D ∧ ∃ (h l a b : Addr) (n n2 : Nat) (m g : Nat → Nat → Nat) (p : Addr) (f : Nat → Nat) (i j : Nat) (x0 x2 x3 x8 x9 x10 x11 x12 x15 x16 x17 x18 x19 x20 x21 x22 : Option V), σ = [x0, some (.ref h), x2, x3, some (.ref a), some (.ref b), some (.ref p), some (.int (n : Nat)), x8, x9, x10, x11, x12, some (.int (i : Nat)), some (.int (j : Nat)), x15, x16, x17, x18, x19, x20, x21, x22] ∧ Env1 K H h l a b n n2 m g ∧ SqT K H p ((tupF n f).map V.int) ∧ i < n ∧ j < n
theorem R14.mk {K : PySem.W.Frag} {D : Ends} {H : Hp} {h l a b : Addr} {n n2 : Nat} {m g : Nat → Nat → Nat} {p : Addr} {f : Nat → Nat} {i j : Nat} {x0 x2 x3 x8 x9 x10 x11 x12 x15 x16 x17 x18 x19 x20 x21 x22 : Option V} (rt : Rt D) (e0 : Env1 K H h l a b n n2 m g) (e1 : SqT K H p ((tupF n f).map V.int)) (e2 : i < n) (e3 : j < n) : R14 K D [x0, some (.ref h), x2, x3, some (.ref a), some (.ref b), some (.ref p), some (.int (n : Nat)), x8, x9, x10, x11, x12, some (.int (i : Nat)), some (.int (j : Nat)), x15, x16, x17, x18, x19, x20, x21, x22] H := ⟨rt, h, l, a, b, n, n2, m, g, p, f, i, j, x0, x2, x3, x8, x9, x10, x11, x12, x15, x16, x17, x18, x19, x20, x21, x22, rfl, e0, e1, e2, e3⟩
def R15 (K : PySem.W.Frag) : TS := fun D σ H => Rt D ∧ ∃ (h l a b : Addr) (n n2 : Nat) (m g : Nat → Nat → Nat) (p : Addr) (f : Nat → Nat) (i j : Nat) (t : V) (o : Option (List Int)) (x0 x2 x3 x8 x9 x10 x11 x12 x16 x17 x18 x19 x20 x21 x22 : Option V), σ = [x0, some (.ref h), x2, x3, some (.ref a), some (.ref b), some (.ref p), some (.int (n : Nat)), x8, x9, x10, x11, x12, some (.int (i : Nat)), some (.int (j : Nat)), some (t), x16, x17, x18, x19, x20, x21, x22] ∧ Env1 K H h l a b n n2 m g ∧ SqT K H p ((tupF n f).map V.int) ∧ i < n ∧ j < n ∧ VD K H t o
theorem R15.mk {K : PySem.W.Frag} {D : Ends} {H : Hp} {h l a b : Addr} {n n2 : Nat} {m g : Nat → Nat → Nat} {p : Addr} {f : Nat → Nat} {i j : Nat} {t : V} {o : Option (List Int)} {x0 x2 x3 x8 x9 x10 x11 x12 x16 x17 x18 x19 x20 x21 x22 : Option V} (rt : Rt D) (e0 : Env1 K H h l a b n n2 m g) (e1 : SqT K H p ((tupF n f).map V.int)) (e2 : i < n) (e3 : j < n) (e4 : VD K H t o) : R15 K D [x0, some (.ref h), x2, x3, some (.ref a), some (.ref b), some (.ref p), some (.int (n : Nat)), x8, x9, x10, x11, x12, some (.int (i : Nat)), some (.int (j : Nat)), some (t), x16, x17, x18, x19, x20, x21, x22] H := ⟨rt, h, l, a, b, n, n2, m, g, p, f, i, j, t, o, x0, x2, x3, x8, x9, x10, x11, x12, x16, x17, x18, x19, x20, x21, x22, rfl, e0, e1, e2, e3, e4⟩
def R16 (K : PySem.W.Frag) : TS := fun D σ H => Rt D ∧ ∃ (h l a b : Addr) (n n2 : Nat) (m g : Nat → Nat → Nat) (p : Addr) (f : Nat → Nat) (i j : Nat) (t : V) (o : Option (List Int)) (sw : Addr) (f2 : Nat → Nat) (x0 x2 x3 x8 x9 x10 x11 x12 x17 x18 x19 x20 x21 x22 : Option V), σ = [x0, some (.ref h), x2, x3, some (.ref a), some (.ref b), some (.ref p), some (.int (n : Nat)), x8, x9, x10, x11, x12, some (.int (i : Nat)), some (.int (j : Nat)), some (t), some (.ref sw), x17, x18, x19, x20, x21, x22] ∧ Env1 K H h l a b n n2 m g ∧ SqT K H p ((tupF n f).map V.int) ∧ i < n ∧ j < n ∧ VD K H t o ∧ SqT K H sw ((tupF n f2).map V.int)
theorem R16.mk {K : PySem.W.Frag} {D : Ends} {H : Hp} {h l a b : Addr} {n n2 : Nat} {m g : Nat → Nat → Nat} {p : Addr} {f : Nat → Nat} {i j : Nat} {t : V} {o : Option (List Int)} {sw : Addr} {f2 : Nat → Nat} {x0 x2 x3 x8 x9 x10 x11 x12 x17 x18 x19 x20 x21 x22 : Option V} (rt : Rt D) (e0 : Env1 K H h l a b n n2 m g) (e1 : SqT K H p ((tupF n f).map V.int)) (e2 : i < n) (e3 : j < n) (e4 : VD K H t o) (e5 : SqT K H sw ((tupF n f2).map V.int)) : R16 K D [x0, some (.ref h), x2, x3, some (.ref a), some (.ref b), some (.ref p), some (.int (n : Nat)), x8, x9, x10, x11, x12, some (.int (i : Nat)), some (.int (j : Nat)), some (t), some (.ref sw), x17, x18, x19, x20, x21, x22] H := ⟨rt, h, l, a, b, n, n2, m, g, p, f, i, j, t, o, sw, f2, x0, x2, x3, x8, x9, x10, x11, x12, x17, x18, x19, x20, x21, x22, rfl, e0, e1, e2, e3, e4, e5⟩
def R17 (K : PySem.W.Frag) : TS := fun D σ H => Rt D ∧ ∃ (h l a b : Addr) (n n2 : Nat) (m g : Nat → Nat → Nat) (ds : Addr) (vs : List V) (x0 x2 x3 x6 x7 x8 x9 x10 x11 x12 x13 x14 x15 x16 x18 x19 x20 x21 x22 : Option V), σ = [x0, some (.ref h), x2, x3, some (.ref a), some (.ref b), x6, x7, x8, x9, x10, x11, x12, x13, x14, x15, x16, some (.ref ds), x18, x19, x20, x21, x22] ∧ Env1 K H h l a b n n2 m g ∧ SqL K H ds vs ∧ ∀ v ∈ vs, ∃ o, VD K H v o
theorem R17.mk {K : PySem.W.Frag} {D : Ends} {H : Hp} {h l a b : Addr} {n n2 : Nat} {m g : Nat → Nat → Nat} {ds : Addr} {vs : List V} {x0 x2 x3 x6 x7 x8 x9 x10 x11 x12 x13 x14 x15 x16 x18 x19 x20 x21 x22 : Option V} (rt : Rt D) (e0 : Env1 K H h l a b n n2 m g) (e1 : SqL K H ds vs) (e2 : ∀ v ∈ vs, ∃ o, VD K H v o) : R17 K D [x0, some (.ref h), x2, x3, some (.ref a), some (.ref b), x6, x7, x8, x9, x10, x11, x12, x13, x14, x15, x16, some (.ref ds), x18, x19, x20, x21, x22] H := ⟨rt, h, l, a, b, n, n2, m, g, ds, vs, x0, x2, x3, x6, x7, x8, x9, x10, x11, x12, x13, x14, x15, x16, x18, x19, x20, x21, x22, rfl, e0, e1, e2⟩
def R18 (K : PySem.W.Frag) : TS := fun D σ H => Rt D ∧ ∃ (h l a b : Addr) (n n2 : Nat) (m g : Nat → Nat → Nat) (x0 x2 x3 x6 x7 x8 x9 x10 x11 x12 x13 x14 x15 x16 x17 x18 x19 x20 x21 x22 : Option V), σ = [x0, some (.ref h), x2, x3, some (.ref a), some (.ref b), x6, x7, x8, x9, x10, x11, x12, x13, x14, x15, x16, x17, x18, x19, x20, x21, x22] ∧ Env1 K H h l a b n n2 m g
theorem R18.mk {K : PySem.W.Frag} {D : Ends} {H : Hp} {h l a b : Addr} {n n2 : Nat} {m g : Nat → Nat → Nat} {x0 x2 x3 x6 x7 x8 x9 x10 x11 x12 x13 x14 x15 x16 x17 x18 x19 x20 x21 x22 : Option V} (rt : Rt D) (e0 : Env1 K H h l a b n n2 m g) : R18 K D [x0, some (.ref h), x2, x3, some (.ref a), some (.ref b), x6, x7, x8, x9, x10, x11, x12, x13, x14, x15, x16, x17, x18, x19, x20, x21, x22] H := ⟨rt, h, l, a, b, n, n2, m, g, x0, x2, x3, x6, x7, x8, x9, x10, x11, x12, x13, x14, x15, x16, x17, x18, x19, x20, x21, x22, rfl, e0⟩
def R19 (K : PySem.W.Frag) : TS := fun D σ H => Rt D ∧ ∃ (a b : Addr) (n n2 : Nat) (m g : Nat → Nat → Nat) (x0 x1 x2 x3 x6 x7 x8 x9 x10 x11 x12 x13 x14 x15 x16 x17 x18 x19 x20 x21 x22 : Option V), σ = [x0, x1, x2, x3, some (.ref a), some (.ref b), x6, x7, x8, x9, x10, x11, x12, x13, x14, x15, x16, x17, x18, x19, x20, x21, x22] ∧ TabAt K H a n m ∧ TabAt K H b n2 g ∧ Grp n m ∧ Grp n2 g ∧ n ≤ 16 ∧ n2 ≤ 16
theorem R19.mk {K : PySem.W.Frag} {D : Ends} {H : Hp} {a b : Addr} {n n2 : Nat} {m g : Nat → Nat → Nat} {x0 x1 x2 x3 x6 x7 x8 x9 x10 x11 x12 x13 x14 x15 x16 x17 x18 x19 x20 x21 x22 : Option V} (rt : Rt D) (e0 : TabAt K H a n m) (e1 : TabAt K H b n2 g) (e2 : Grp n m) (e3 : Grp n2 g) (e4 : n ≤ 16) (e5 : n2 ≤ 16) : R19 K D [x0, x1, x2, x3, some (.ref a), some (.ref b), x6, x7, x8, x9, x10, x11, x12, x13, x14, x15, x16, x17, x18, x19, x20, x21, x22] H := ⟨rt, a, b, n, n2, m, g, x0, x1, x2, x3, x6, x7, x8, x9, x10, x11, x12, x13, x14, x15, x16, x17, x18, x19, x20, x21, x22, rfl, e0, e1, e2, e3, e4, e5⟩
def R20 (K : PySem.W.Frag) : TS := fun D σ H => Rt D ∧ ∃ (a b wd nr : Addr) (n n2 : Nat) (m g : Nat → Nat → Nat) (x0 x1 x2 x3 x6 x7 x8 x9 x10 x11 x12 x13 x14 x15 x16 x17 x18 x19 x20 : Option V), σ = [x0, x1, x2, x3, some (.ref a), some (.ref b), x6, x7, x8, x9, x10, x11, x12, x13, x14, x15, x16, x17, x18, x19, x20, some (.ref wd), some (.ref nr)] ∧ TabAt K H a n m ∧ TabAt K H b n2 g ∧ Grp n m ∧ Grp n2 g ∧ n ≤ 16 ∧ n2 ≤ 16 ∧ TabAt K H wd 25 (tabM 25 1 1 0) ∧ TabAt K H nr 24 (tabM 24 1 1 0)
theorem R20.mk {K : PySem.W.Frag} {D : Ends} {H : Hp} {a b wd nr : Addr} {n n2 : Nat} {m g : Nat → Nat → Nat} {x0 x1 x2 x3 x6 x7 x8 x9 x10 x11 x12 x13 x14 x15 x16 x17 x18 x19 x20 : Option V} (rt : Rt D) (e0 : TabAt K H a n m) (e1 : TabAt K H b n2 g) (e2 : Grp n m) (e3 : Grp n2 g) (e4 : n ≤ 16) (e5 : n2 ≤ 16) (e6 : TabAt K H wd 25 (tabM 25 1 1 0)) (e7 : TabAt K H nr 24 (tabM 24 1 1 0)) : R20 K D [x0, x1, x2, x3, some (.ref a), some (.ref b), x6, x7, x8, x9, x10, x11, x12, x13, x14, x15, x16, x17, x18, x19, x20, some (.ref wd), some (.ref nr)] H := ⟨rt, a, b, wd, nr, n, n2, m, g, x0, x1, x2, x3, x6, x7, x8, x9, x10, x11, x12, x13, x14, x15, x16, x17, x18, x19, x20, rfl, e0, e1, e2, e3, e4, e5, e6, e7⟩
def R21 (K : PySem.W.Frag) : TS := fun D σ H => Rt D ∧ ∃ (a b wd nr : Addr) (n n2 : Nat) (m g : Nat → Nat → Nat) (x0 x1 x2 x3 x6 x7 x8 x9 x10 x11 x12 x13 x14 x15 x16 x17 x18 x19 x20 : Option V), σ = [x0, x1, x2, x3, some (.ref a), some (.ref b), x6, x7, x8, x9, x10, x11, x12, x13, x14, x15, x16, x17, x18, x19, x20, some (.ref wd), some (.ref nr)] ∧ TabAt K H a n m ∧ TabAt K H b n2 g ∧ Grp n m ∧ Grp n2 g ∧ n ≤ 16 ∧ n2 ≤ 16 ∧ TabAt K H wd 25 (tabM 25 1 1 0) ∧ TabAt K H nr 24 (tabM 24 1 1 0)
theorem R21.mk {K : PySem.W.Frag} {D : Ends} {H : Hp} {a b wd nr : Addr} {n n2 : Nat} {m g : Nat → Nat → Nat} {x0 x1 x2 x3 x6 x7 x8 x9 x10 x11 x12 x13 x14 x15 x16 x17 x18 x19 x20 : Option V} (rt : Rt D) (e0 : TabAt K H a n m) (e1 : TabAt K H b n2 g) (e2 : Grp n m) (e3 : Grp n2 g) (e4 : n ≤ 16) (e5 : n2 ≤ 16) (e6 : TabAt K H wd 25 (tabM 25 1 1 0)) (e7 : TabAt K H nr 24 (tabM 24 1 1 0)) : R21 K D [x0, x1, x2, x3, some (.ref a), some (.ref b), x6, x7, x8, x9, x10, x11, x12, x13, x14, x15, x16, x17, x18, x19, x20, some (.ref wd), some (.ref nr)] H := ⟨rt, a, b, wd, nr, n, n2, m, g, x0, x1, x2, x3, x6, x7, x8, x9, x10, x11, x12, x13, x14, x15, x16, x17, x18, x19, x20, rfl, e0, e1, e2, e3, e4, e5, e6, e7⟩
end K38

set_option Elab.async false
set_option linter.all false
set_option maxRecDepth 100000
set_option maxHeartbeats 4000000
/-! LA: the law's last statements: the spoilt values, the wide tables. -/
namespace K38
open PySem PySem.Spec PyProof.Rows L2
theorem idIso {n : Nat} {m : Nat → Nat → Nat} : Iso n m m fun i => i := ⟨fun i hi => hi, fun _ _ _ _ e => e, fun _ _ _ _ => rfl⟩
theorem tupF_small {n : Nat} {f : Nat → Nat} (hn : n ≤ 60) (hf : ∀ i, i < n → f i < n) : ∀ x ∈ tupF n f, 0 ≤ x ∧ x < 1000 := fun x hx => by
  obtain ⟨i, hi, rfl⟩ := List.mem_map.mp hx
  have := hf i (List.mem_range.mp hi)
  constructor
  · omega
  · omega
theorem reprT {K : PySem.W.Frag} {H : Hp} {a : Addr} {n : Nat} {f : Nat → Nat} (h : SqT K H a ((tupF n f).map V.int)) (hn : n ≤ 60) (hf : ∀ i, i < n → f i < n) : ReprV K H (.ref a) (tupD (tupF n f)).shown :=
  .inr (.inr ⟨a, _, rfl, h, tupF_small hn hf, by rw [tupF_len]; omega, rfl⟩)
theorem reprB {K : PySem.W.Frag} {H : Hp} {b : Bool} : ReprV K H (.bl b) (PyData.bool b).shown := .inr (.inl ⟨b, rfl, rfl⟩)
theorem tabAt_upd {K : PySem.W.Frag} {H : Hp} {a D : Addr} {n : Nat} {m : Nat → Nat → Nat} {ys : List V} {o : HO} (h : TabAt K H a n m) (hD : H D = some (.lst ys)) : TabAt K (upd H D o) a n m := by
  obtain ⟨rs, h1, h2, h3⟩ := h
  exact ⟨rs, h1, sqT_upd h2 hD, fun i r q => sqT_upd (h3 i r q) hD⟩
theorem cut1 {α : Type} {xs : List α} {y x : α} {i j : Nat} (hj : j = xs.length) (e : (xs ++ [y])[i]? = some x) : (i < j ∧ xs[i]? = some x) ∨ (i = j ∧ x = y) := by
  subst hj
  by_cases hi : i < xs.length
  · rw [List.getElem?_append_left hi] at e
    exact .inl ⟨hi, e⟩
  · rw [List.getElem?_append_right (by omega)] at e
    have h0 : i - xs.length = 0 := by
      by_cases h0 : i - xs.length = 0
      · exact h0
      · rw [List.getElem?_eq_none (by simp; omega)] at e
        cases e
    rw [h0] at e
    exact .inr ⟨by omega, (Option.some.inj e).symm⟩
/-- the outer comprehension's names -/
def inLcA : Stmt → Scope
  | .Assign _ (.ListComp _ _ sc _) _ => relS sc
  | _ => defScope sLaw
section
variable {P : Program} {w : World} {K : PySem.W.Frag} {mg : Str → Option Value} {base : Heap} {fa : Nat → Addr} {fd : Nat → FuncData} {C fRI : Addr} {tk : Tok}
variable {f : Addr} {cdv : Value} {A : Around} {outer : List Env} {s : Shared} {H0 : Hp} {E : XK}
theorem law21 (k : Kit P K mg fa fd C fRI tk) (hr : Room 32 (A.deeper (envOfC "law" (defScope sLaw) s.heap.objs.size f cdv))) : PSs (lawX P w K mg base f cdv A outer s H0 E) (lawT 21) (R21 K) := by
  refine imp_pss (pss_one (ps_ret (pe_cmpR (op_eqD hr.units) (pe_lst (pa_cons (pe_call k.wide hr (by rfl) k.d35.g k.d35.F.kp k.d35.b .nil pass0 (pa_cons (pv 21) (pa_cons (pv 4) pa_nil)))
      (pa_cons (pe_call k.wide hr (by rfl) k.d35.g k.d35.F.kp k.d35.b .nil pass0 (pa_cons (pv 4) (pa_cons (pv 21) pa_nil)))
      (pa_cons (pe_call k.wide hr (by rfl) k.d35.g k.d35.F.kp k.d35.b .nil pass0 (pa_cons (pv 21) (pa_cons (pv 21) pa_nil))) pa_nil)))) (pe_op op_rep (pe_lst (pa_cons pe_str pa_nil)) pe_int) (nomark _)))) (fun D σ H h => ?_)
  obtain ⟨rt, a, b, wd, nr, n, n2, m, g, x0, x1, x2, x3, x6, x7, x8, x9, x10, x11, x12, x13, x14, x15, x16, x17, x18, x19, x20, rfl, ha, hb, G, G', hz, hz2, hw, hn⟩ := h
  refine ⟨.ref wd, rfl, .ref a, rfl, wd, a, 25, n, _, m, rfl, hw, ha, grp25, G, by omega, by omega, .inl (by omega), fun H1 s1 => ?_⟩
  refine ⟨.ref a, rfl, .ref wd, rfl, a, wd, n, 25, m, _, rfl, ha.same s1, hw.same s1, G, grp25, by omega, by omega, .inr (by omega), fun H2 s2 => ?_⟩
  have s12 := s1.trans s2
  refine ⟨.ref wd, rfl, .ref wd, rfl, wd, wd, 25, 25, _, _, rfl, hw.same s12, hw.same s12, grp25, grp25, by omega, by omega, .inl (by omega), fun H3 s3 => ?_⟩
  refine ⟨by show 3 ≤ sizeLine; decide, fun p hp => ⟨by show 1 ≤ sizeLine; decide, fun e he => ⟨e, 3, [.str "wide"], rfl, rfl, upd_same, by decide, by decide, by show 3 ≤ sizeLine; decide, fun q hq => ?_⟩⟩⟩
  refine ⟨.list [.str "wide", .str "wide", .str "wide"], .list [.str "wide", .str "wide", .str "wide"], .lst (xs := [.str "wide", .str "wide", .str "wide"]) (sqL_same ((same_new he).trans (same_new hq)) seqL_new) (.cons (.str _) (.cons (.str _) (.cons (.str _) .nil))),
    .lst (xs := [.str "wide", .str "wide", .str "wide"]) seqL_new (.cons (.str _) (.cons (.str _) (.cons (.str _) .nil))), by decide +kernel, by decide +kernel, ?_⟩
  have e1 : PyData.eqv (.list [.str "wide", .str "wide", .str "wide"]) (.list [.str "wide", .str "wide", .str "wide"]) = true := by decide +kernel
  rw [e1]
  exact rt _
theorem law20 (k : Kit P K mg fa fd C fRI tk) (hg : A.guards = some []) (hr : Room 32 (A.deeper (envOfC "law" (defScope sLaw) s.heap.objs.size f cdv))) : PSs (lawX P w K mg base f cdv A outer s H0 E) (lawT 20) (R20 K) := by
  refine imp_pss (pss_cons (ps_if (PW.pt (pw_or (pt_cmpR op_ne (pe_callB (cr_repr hr.units hg) (by rfl) k.B.repr b_repr (pa_cons (pe_call k.matching (hr.mono (by decide)) (by rfl) k.d19.g k.d19.F.kp k.d19.b .nil passL (pa_cons (pv 22) (pa_cons (pv 22) pa_nil))) pa_nil))
        (pe_callB (cr_repr hr.units hg) (by rfl) k.B.repr b_repr (pa_cons (pe_tupRg rfl (by rfl) k.B.tuple (prg_1 (by rfl) k.B.range pe_int)) pa_nil)) (nomark _))
      (pw_or1 (pt_not (pt_val (pe_call k.isMatching (hr.mono (by decide)) (by rfl) k.d15.g k.d15.F.kp k.d15.b .nil pass0 (pa_cons (pv 21) (pa_cons (pv 21) (pa_cons (pe_tupRg rfl (by rfl) k.B.tuple (prg_1 (by rfl) k.B.range pe_int)) pa_nil))))))))) (pss_one (ps_ret pe_bl)) pss_nil) (law21 k hr)) (fun D σ H h => ?_)
  obtain ⟨rt, a, b, wd, nr, n, n2, m, g, x0, x1, x2, x3, x6, x7, x8, x9, x10, x11, x12, x13, x14, x15, x16, x17, x18, x19, x20, rfl, ha, hb, G, G', hz, hz2, hw, hn⟩ := h
  refine ⟨.ref nr, rfl, .ref nr, rfl, nr, nr, 24, 24, _, _, rfl, hn, hn, grp24, grp24, by omega, by omega, fun h => absurd h (by omega), fun _ _ => ⟨fun H1 s1 hno => absurd idIso (hno rfl _), fun H1 p F s1 _ hp hl => ?_⟩⟩
  have hid := least_id hl
  have eF : tupF 24 F = tupF 24 fun i => i := same_map hid
  refine ⟨.ref p, _, rfl, reprT hp (by omega) hl.is.lt, 24, rfl, RgOk.of_le (by omega) (by omega) (by omega) (by omega), fun q hq => ?_⟩
  have er : rgV 0 24 = (tupF 24 fun i => i).map V.int := rgV_ints 24
  rw [er]
  refine ⟨.ref q, _, rfl, reprT seqT_new (by omega) (fun i hi => hi), rfl, _, rfl, ?_⟩
  rw [eF, decide_eq_true rfl]
  have sq := s1.trans (same_new (o := .tup ((tupF 24 fun i => i).map V.int)) hq)
  refine iteF ⟨.ref wd, rfl, .ref wd, rfl, 25, rfl, RgOk.of_le (by omega) (by omega) (by omega) (by omega), fun q2 hq2 => ?_⟩
  have er : rgV 0 25 = (tupF 25 fun i => i).map V.int := rgV_ints 25
  rw [er]
  have sq2 := sq.trans (same_new (o := .tup ((tupF 25 fun i => i).map V.int)) hq2)
  have G25 : Grp 25 (tabM 25 1 1 0) := grp25
  refine ⟨wd, wd, .ref q2, 25, 25, tabM 25 1 1 0, tabM 25 1 1 0, some (tupF 25 fun i => i), rfl, hw.same sq2, hw.same sq2, vd_ints seqT_new (by rw [tupF_len]; omega), by omega, G25.lt, fun H3 c s3 hc => ⟨c, rfl, ?_⟩⟩
  obtain rfl : c = true := hc.mpr ((isoT_some G25.lt).mpr idIso)
  have sz := sq2.trans s3
  exact iteF (R21.mk rt (ha.same sz) (hb.same sz) G G' hz hz2 (hw.same sz) (hn.same sz))
theorem law19 (k : Kit P K mg fa fd C fRI tk) (hg : A.guards = some []) (hr : Room 32 (A.deeper (envOfC "law" (defScope sLaw) s.heap.objs.size f cdv))) : PSs (lawX P w K mg base f cdv A outer s H0 E) (lawT 19) (R19 K) := by
  refine imp_pss (pss_cons (ps_asg (pe_lc (own := [("_law_size", 19)]) (g := gName 19) (tt := tYes) rfl scLaw.nd (pi_list (pe_lst (pa_cons pe_int (pa_cons pe_int pa_nil)))) (blkOk_by (N := NL) (sc := defScope sLaw) (by decide +kernel))
        (fun _ _ _ _ _ => pg_name (i := 19) scLaw.nd rfl (Or.inl rfl)) (fun _ _ _ _ _ => pts_nil)
        (fun _ _ _ _ _ => pe_callTy (r := rTO K) call_tupO (by rfl) k.B.tuple b_tuple (pa_cons (pe_lc (wi := iList K (tCall (spTable K) [] E0 (tCons (tTup (tCons (tVar 19) (tCons (tC (.int 1)) (tCons (tC (.int 1)) (tCons (tC (.int 0)) tNil))))) tNil))) (own := [("_law_row", 20)]) (g := gName 20) (tt := tYes) rfl scLaw.nd
            (pi_list (pe_call k.table (hr.mono (by decide)) (by rfl) k.d25.g k.d25.F.kp k.d25.b .nil pass0 (pa_cons (pe_tup (pa_cons (pv 19) (pa_cons pe_int (pa_cons pe_int (pa_cons pe_int pa_nil))))) pa_nil)))
            (blkOk_by (N := NL) (sc := inLcA ((defBody sLaw).getD 19 (.Pass ⟨0, 0, 0, 0⟩))) (by decide +kernel))
            (fun _ _ _ _ _ => pg_name (i := 20) scLaw.nd rfl (Or.inl rfl)) (fun _ _ _ _ _ => pts_nil) (fun _ _ _ _ _ => pe_callTy (r := rTO K) call_tupO (by rfl) k.B.tuple b_tuple (pa_cons (pv 20) pa_nil))) pa_nil)))
      (pg_unl (n := 2) rfl (pgs_cons (pg_name (i := 21) scLaw.nd rfl (Or.inl rfl)) (pgs_cons (pg_name (i := 22) scLaw.nd rfl (Or.inl rfl)) pgs_nil)))) (law20 k hg hr)) (fun D σ H h => ?_)
  obtain ⟨rt, a, b, n, n2, m, g, x0, x1, x2, x3, x6, x7, x8, x9, x10, x11, x12, x13, x14, x15, x16, x17, x18, x19, x20, x21, x22, rfl, ha, hb, G, G', hz, hz2⟩ := h
  refine ⟨by show 2 ≤ sizeLine; decide, fun e he => ⟨e, rfl, ⟨_, .inl (.inl upd_same)⟩, fun D2 hD2 => ?_⟩⟩
  have s0 := same_new (o := .lst [V.int 25, V.int 24]) he
  have e0 : upd H e (.lst [V.int 25, V.int 24]) e = some (.lst [V.int 25, V.int 24]) := upd_same
  generalize upd H e (.lst [V.int 25, V.int 24]) = H1 at *
  clear he
  refine lc_it (walk_list (xs := [V.int 25, V.int 24])) (fun i H2 => Same H1 H2 ∧ ∃ ts : List Addr, ts.length = i ∧ H2 D2 = some (.lst (ts.map V.ref)) ∧ ∀ (j : Nat) (t : Addr), ts[j]? = some t → TabAt K H2 t (if j = 0 then 25 else 24) (tabM (if j = 0 then 25 else 24) 1 1 0))
    ⟨same_new hD2, [], rfl, upd_same, fun j t e => by cases e⟩ (fun i H2 _ h => .inl (.inl (h.1 _ _ e0))) (fun i y H3 H2 hi hP hY => ?_) (fun H2 hP => ?_)
  · obtain ⟨rfl, hy⟩ := hY
    obtain ⟨s2, ts, htl, hD3, hts⟩ := hP
    obtain ⟨z, rfl, hz0⟩ : ∃ z : Nat, y = .int (z : Nat) ∧ z = if i = 0 then 25 else 24 := by
      rcases Nat.lt_or_ge i 1 with h | h
      · have : i = 0 := by omega
        subst this
        exact ⟨25, (Option.some.inj hy).symm, rfl⟩
      · have hi2 : i < 2 := hi
        have : i = 1 := by omega
        subst this
        exact ⟨24, (Option.some.inj hy).symm, rfl⟩
    have hz1 : 0 < z ∧ z ≤ 25 := by rw [hz0]; split <;> omega
    refine ⟨rfl, tyes ⟨.int (z : Nat), rfl, by show 4 ≤ sizeLine; decide, fun kd hkd => ?_⟩⟩
    have s3 := same_new (o := .tup [V.int (z : Nat), V.int 1, V.int 1, V.int 0]) hkd
    refine ⟨kd, z, 1, 1, 0, rfl, seqT_new, hz1.1, by omega, by omega, by omega, by omega, ⟨by omega, by omega⟩, fun p H4 s4 hp hT => ?_⟩
    rw [Nat.mul_one] at hT
    obtain ⟨rs, hrl, hp4, hrs⟩ := hT
    refine ⟨p, rfl, ⟨_, .inl (.inl hp4)⟩, fun D4 hD4 => ?_⟩
    have s34 := s3.trans s4
    refine lc_it (walk_list (xs := rs.map V.ref)) (fun j H5 => Same H4 H5 ∧ ∃ us : List Addr, us.length = j ∧ H5 D4 = some (.lst (us.map V.ref)) ∧ ∀ (j : Nat) (u : Addr), us[j]? = some u → SqT K H5 u (rowV z (tabM z 1 1 0) j))
      ⟨same_new hD4, [], rfl, upd_same, fun j t e => by cases e⟩ (fun i H5 _ h => .inl (.inl (h.1 _ _ hp4))) (fun j y H6 H5 hj hP hY => ?_) (fun H5 hP => ?_)
    · obtain ⟨rfl, hy2⟩ := hY
      obtain ⟨s5, us, hul, hD5, hus⟩ := hP
      rw [List.length_map] at hj
      have er : rs[j]? = some rs[j] := List.getElem?_eq_getElem hj
      rw [List.getElem?_map, er] at hy2
      obtain rfl := Option.some.inj hy2
      refine ⟨rfl, tyes ⟨.ref rs[j], rfl, rs[j], _, rfl, .inl (.inl (s5 _ _ (hrs j _ er).2)), fun u hu => ?_⟩⟩
      have hD6 := same_new (o := .tup (rowV z (tabM z 1 1 0) j)) hu _ _ hD5
      refine ⟨_, hD6, by rw [List.length_map]; exact szl (by omega), fun c o q => ?_, us ++ [u], by rw [List.length_append, hul]; rfl, by rw [upd_same, List.map_append]; rfl, fun j2 u2 e2 => ?_⟩
      · rw [upd_ne (ne_of_none q hD4)]
        exact (s5.trans (same_new hu)) c o q
      · refine sqT_upd ?_ hD6
        rcases cut1 hul.symm e2 with ⟨_, e3⟩ | ⟨rfl, rfl⟩
        · exact sameT (same_new hu) (hus j2 u2 e3)
        · exact seqT_new
    · obtain ⟨s5, us, hul, hD5, hus⟩ := hP
      rw [List.length_map, hrl] at hul
      refine ⟨D4, _, rfl, .inl (.inl hD5), fun t ht => ?_⟩
      have s6 := (s34.trans s5).trans (same_new (o := .tup (us.map V.ref)) ht)
      have hD7 := s6 _ _ hD3
      refine ⟨_, hD7, by rw [List.length_map]; exact szl (by have : i < 2 := hi; omega), fun c o q => ?_, ts ++ [t], by rw [List.length_append, htl]; rfl, by rw [upd_same, List.map_append]; rfl, fun j2 u2 e2 => ?_⟩
      · rw [upd_ne (ne_of_none q hD2)]
        exact s6 _ _ (s2 c o q)
      · refine tabAt_upd ?_ hD7
        rcases cut1 htl.symm e2 with ⟨_, e3⟩ | ⟨rfl, rfl⟩
        · exact (hts j2 u2 e3).same s6
        · rw [← hz0]
          exact ⟨us, hul, seqT_new, fun j u e => sameT (same_new ht) (hus j u e)⟩
  · obtain ⟨s2, ts, htl, hD3, hts⟩ := hP
    match ts, htl, hD3, hts with
    | [wd, nr], _, hD3, hts =>
      have sx := s0.trans s2
      refine ⟨D2, _, rfl, .inl (.inl hD3), rfl, _, _, rfl, _, _, rfl, rfl, ?_⟩
      exact R20.mk rt (ha.same sx) (hb.same sx) G G' hz hz2 (hts 0 wd rfl) (hts 1 nr rfl)
theorem law18 (k : Kit P K mg fa fd C fRI tk) (hg : A.guards = some []) (hr : Room 32 (A.deeper (envOfC "law" (defScope sLaw) s.heap.objs.size f cdv))) : PSs (lawX P w K mg base f cdv A outer s H0 E) (lawT 18) (R18 K) := by
  refine imp_pss (pss_cons (ps_if (pt_cmpR op_gt (pe_call k.draw (hr.mono (by decide)) (by rfl) k.d22.g k.d22.F.kp k.d22.b .nil pass0 (pa_cons (pv 1) (pa_cons pe_int pa_nil))) pe_int (nomark _)) (pss_one (ps_ret pe_bl)) pss_nil) (law19 k hg hr)) (fun D σ H h => ?_)
  obtain ⟨rt, h, l, a, b, n, n2, m, g, x0, x2, x3, x6, x7, x8, x9, x10, x11, x12, x13, x14, x15, x16, x17, x18, x19, x20, x21, x22, rfl, e1⟩ := h
  refine ⟨.ref h, rfl, h, l, 6, rfl, by omega, by omega, e1.hp, fun r H1 hr1 hx1 hB => ⟨(r : Nat), 0, rfl, rfl, _, rfl, ite2 (fun _ => rt _) (fun _ => ?_)⟩⟩
  have e2 := e1.but hx1 hB
  exact R19.mk rt e2.ta.tab e2.tb.tab e2.G e2.G' e2.z e2.z2
theorem law17 (k : Kit P K mg fa fd C fRI tk) (hg : A.guards = some []) (hr : Room 32 (A.deeper (envOfC "law" (defScope sLaw) s.heap.objs.size f cdv))) : PSs (lawX P w K mg base f cdv A outer s H0 E) (lawT 17) (R17 K) := by
  have kb : KBinds K (fd 15) ["table", "goal", "value"] ["value", "goal", "table"] gR gR := kbR k.d15.F (by simp) fun _ _ _ _ _ _ ws hl => match ws, hl with | [_, _, _], _ => rfl
  refine imp_pss (pss_cons (ps_for PassesOwn.never rfl (pi_list (pv 17)) (pg_name (i := 18) scLaw.nd rfl (Or.inl rfl))
      (pss_one (ps_if (pt_cmpR op_ne (pe_callB (cr_repr hr.units hg) (by rfl) k.B.repr b_repr (pa_cons (pe_callK0 k.isMatching (hr.mono (by decide)) (by rfl) k.d15.g k.d15.F.kp kb pass0 (pk_cons (pv 18) (pk_cons (pv 5) (pk_cons (pv 4) pk_nil)))) pa_nil))
        (pe_callB (cr_repr hr.units hg) (by rfl) k.B.repr b_repr (pa_cons (pe_call k.leads (hr.mono (by decide)) (by rfl) k.d31.g k.d31.F.kp k.d31.b .nil pass0 (pa_cons (pv 4) (pa_cons (pv 5) (pa_cons (pv 18) pa_nil)))) pa_nil)) (nomark _)) (pss_one (ps_ret pe_bl)) pss_nil))) (law18 k hg hr)) (fun D σ H h => ?_)
  obtain ⟨rt, h, l, a, b, n, n2, m, g, ds, vs, x0, x2, x3, x6, x7, x8, x9, x10, x11, x12, x13, x14, x15, x16, x18, x19, x20, x21, x22, rfl, e1, hS, hvs⟩ := h
  refine ⟨.ref ds, rfl, ds, rfl, ⟨_, hS⟩, ?_⟩
  refine for_it (walk_list (xs := vs)) (fun i σ H1 => (∃ x18, σ = [x0, some (.ref h), x2, x3, some (.ref a), some (.ref b), x6, x7, x8, x9, x10, x11, x12, x13, x14, x15, x16, some (.ref ds), x18, x19, x20, x21, x22]) ∧ Same H H1) ⟨⟨_, rfl⟩, Same.refl H⟩ (fun i σ H1 _ h => sqL_same h.2 hS) (fun i y σ H2 H1 hi hP hY => ?_) (fun σ H1 hP => ?_)
  · obtain ⟨rfl, hy⟩ := hY
    obtain ⟨⟨x18, rfl⟩, s1⟩ := hP
    obtain ⟨o, hv⟩ := hvs y (List.mem_of_getElem? hy)
    refine ⟨y, rfl, .ref b, rfl, .ref a, rfl, a, b, y, n, n2, m, g, o, rfl, e1.ta.tab.same s1, e1.tb.tab.same s1, hv.same s1, by have := e1.z; omega, e1.G.lt, fun H3 c1 s3 hc1 => ?_⟩
    have s13 := s1.trans s3
    refine ⟨.bl c1, _, rfl, reprB, .ref a, rfl, .ref b, rfl, y, rfl, a, b, y, n, n2, m, g, o, rfl, e1.ta.tab.same s13, e1.tb.tab.same s13, hv.same s13, by have := e1.z; omega, e1.G.lt, fun H4 c2 s4 hc2 => ?_⟩
    obtain rfl : c1 = c2 := Bool.eq_iff_iff.mpr (hc1.trans hc2.symm)
    refine ⟨.bl c1, _, rfl, reprB, rfl, _, rfl, ?_⟩
    rw [decide_eq_true rfl]
    exact iteF ⟨⟨_, rfl⟩, s13.trans s4⟩
  · obtain ⟨⟨x18, rfl⟩, s1⟩ := hP
    exact R18.mk rt (e1.same s1)
end
end K38

set_option Elab.async false
set_option linter.all false
set_option maxRecDepth 100000
set_option maxHeartbeats 4000000
/-! LB: the law's middle: inverses, the thing drawn, the spoilt values. -/
namespace K38
open PySem PySem.Spec PyProof.Rows L2
theorem slA {K : PySem.W.Frag} {H : Hp} {p : Addr} {xs : List V} {lo hi : Option Int} {Q : VK} (h : SqT K H p xs) (q : ∀ p' H', Same H H' → SqT K H' p' (cutV xs lo hi) → Q (.ref p') H') : rSlA K (.ref p) lo hi H Q := by
  refine ⟨p, xs, rfl, h, fun e => q p H (Same.refl H) ?_, fun _ p' hp' => q p' _ (same_new hp') seqT_new⟩
  have : cutV xs lo hi = xs := by
    unfold cutV
    rw [e.1, e.2, List.drop_zero, Nat.sub_zero, List.take_length]
  rw [this]
  exact h
theorem noPart {σ : L2.St} {H : Hp} {Q : Option Int → Hp → Prop} (q : Q none H) : tNoPart σ H Q := q
theorem catA {K : PySem.W.Frag} {H : Hp} {a b : Addr} {xs ys : List V} {Q : VK} (h : SqT K H a xs) (g : SqT K H b ys) (hz : xs.length + ys.length ≤ sizeLine) (q : ∀ p' H', Same H H' → SqT K H' p' (xs ++ ys) → Q (.ref p') H') : rCatA K (.ref a) (.ref b) H Q := by
  refine ⟨a, b, xs, ys, rfl, rfl, h, g, hz, fun e => ?_, fun _ e => ?_, fun _ _ p hp => q p _ (same_new hp) seqT_new⟩
  · subst e
    exact q b H (Same.refl H) g
  · subst e
    exact q a H (Same.refl H) (by rw [List.append_nil]; exact h)
theorem vd_mid {K : PySem.W.Frag} {H : Hp} {p : Addr} {t : V} {o : Option (List Int)} {cs ds : List Int} (ht : VD K H t o) (h : SqT K H p (cs.map V.int ++ [t] ++ ds.map V.int)) (hz : cs.length + 1 + ds.length ≤ 1000) : ∃ o', VD K H (.ref p) o' := by
  have hk : ∀ y ∈ cs.map V.int ++ [t] ++ ds.map V.int, ∃ tt, Known K H y tt := fun y hy => by
    rcases List.mem_append.mp hy with z | z
    · rcases List.mem_append.mp z with z | z
      · obtain ⟨i, _, rfl⟩ := List.mem_map.mp z
        exact ⟨_, known_int i⟩
      · have : y = t := by simpa using z
        rw [this]
        exact ht.known
    · obtain ⟨i, _, rfl⟩ := List.mem_map.mp z
      exact ⟨_, known_int i⟩
  have hl : (cs.map V.int ++ [t] ++ ds.map V.int).length ≤ 1000 := by
    rw [List.length_append, List.length_append, List.length_map, List.length_map, List.length_singleton]
    exact hz
  by_cases hi : isInt t = true
  · obtain ⟨i, rfl⟩ := isInt_is hi
    refine ⟨some (cs ++ [i] ++ ds), .inr ⟨p, _, rfl, h, hk, hl, .inr ⟨_, rfl, ?_⟩⟩⟩
    rw [List.map_append, List.map_append]
    rfl
  · exact ⟨none, .inr ⟨p, _, rfl, h, hk, hl, .inl ⟨rfl, t, List.mem_append_left _ (List.mem_append_right _ (List.mem_singleton.mpr rfl)), by simpa using hi⟩⟩⟩
section
variable {P : Program} {w : World} {K : PySem.W.Frag} {mg : Str → Option Value} {base : Heap} {fa : Nat → Addr} {fd : Nat → FuncData} {C fRI : Addr} {tk : Tok}
variable {f : Addr} {cdv : Value} {A : Around} {outer : List Env} {s : Shared} {H0 : Hp} {E : XK}
theorem law16 (k : Kit P K mg fa fd C fRI tk) (hg : A.guards = some []) (hr : Room 32 (A.deeper (envOfC "law" (defScope sLaw) s.heap.objs.size f cdv))) : PSs (lawX P w K mg base f cdv A outer s H0 E) (lawT 16) (R16 K) := by
  refine imp_pss (pss_cons (ps_set (i := 17) scLaw.nd rfl (Or.inl rfl) (pe_lst
      (pa_cons (pe_op op_catA (pe_op op_catA (pe_slice sl_tupA (pv 6) po_none (po_some (pv 13))) (pe_tup (pa_cons (pv 15) pa_nil))) (pe_slice sl_tupA (pv 6) (po_some (pe_op op_add (pv 13) pe_int)) po_none))
      (pa_cons (pv 16)
      (pa_cons (pe_op op_catA (pe_slice sl_tupA (pv 6) po_none (po_some (pv 13))) (pe_slice sl_tupA (pv 6) (po_some (pe_op op_add (pv 13) pe_int)) po_none))
      (pa_cons (pe_op op_catA (pv 6) (pe_tup (pa_cons (pv 14) pa_nil)))
      (pa_cons (pe_callTy call_list_of (by rfl) k.B.list b_list (pa_cons (pv 6) pa_nil))
      (pa_cons pe_non (pa_cons (pv 15)
      (pa_cons (pe_op op_repX (pe_tup (pa_cons pe_int pa_nil)) (pv 7)) pa_nil)))))))))) (law17 k hg hr)) (fun D σ H h => ?_)
  obtain ⟨rt, h, l, a, b, n, n2, m, g, p, F, i, j, t, o, sw, F2, x0, x2, x3, x8, x9, x10, x11, x12, x17, x18, x19, x20, x21, x22, rfl, e1, hp, hi, hj, ht, hsw⟩ := h
  have hn := e1.z
  have hpos := e1.G.pos
  obtain ⟨cs, ec, hcl⟩ := cut_ints (tupF n F) none (some (i : Nat))
  obtain ⟨ds, ed, hdl⟩ := cut_ints (tupF n F) (some ((i : Nat) + (1 : Int))) none
  rw [tupF_len] at hcl hdl
  refine ⟨.ref p, rfl, .int (i : Nat), rfl, (i : Nat), rfl, slA hp fun p1 H1 s1 h1 => ?_⟩
  rw [ec] at h1
  refine ⟨t, rfl, by show 1 ≤ sizeLine; decide, fun q1 hq1 => catA (sameT (same_new hq1) h1) seqT_new ?_ fun p2 H2 s2 h2 => ?_⟩
  · rw [List.length_map, List.length_singleton]; exact sz (by omega)
  have s02 := (s1.trans (same_new hq1)).trans s2
  refine ⟨.ref p, rfl, .int (i : Nat), rfl, (i : Nat), 1, rfl, rfl, _, rfl, ?_⟩
  refine noPart (slA (sameT s02 hp) fun p3 H3 s3 h3 => ?_)
  rw [ed] at h3
  refine catA (sameT s3 h2) h3 ?_ fun p4 H4 s4 h4 => ?_
  · rw [List.length_append, List.length_map, List.length_map, List.length_singleton]; exact sz (by omega)
  have s04 := (s02.trans s3).trans s4
  obtain ⟨o1, v1⟩ := vd_mid (ht.same s04) h4 (by omega)
  refine ⟨.ref sw, rfl, ?_⟩
  refine ⟨.ref p, rfl, .int (i : Nat), rfl, (i : Nat), rfl, slA (sameT s04 hp) fun p5 H5 s5 h5 => ?_⟩
  rw [ec] at h5
  have s05 := s04.trans s5
  refine ⟨.ref p, rfl, .int (i : Nat), rfl, (i : Nat), 1, rfl, rfl, _, rfl, ?_⟩
  refine noPart (slA (sameT s05 hp) fun p6 H6 s6 h6 => ?_)
  rw [ed] at h6
  refine catA (sameT s6 h5) h6 ?_ fun p7 H7 s7 h7 => ?_
  · rw [List.length_map, List.length_map]; exact sz (by omega)
  have s07 := (s05.trans s6).trans s7
  rw [← List.map_append] at h7
  have v3 := vd_ints h7 (by rw [List.length_append]; omega)
  refine ⟨.ref p, rfl, .int (j : Nat), rfl, by show 1 ≤ sizeLine; decide, fun q8 hq8 => catA (sameT (s07.trans (same_new hq8)) hp) seqT_new ?_ fun p8 H8 s8 h8 => ?_⟩
  · rw [List.length_map, tupF_len, List.length_singleton]; exact sz (by omega)
  have s78 := (same_new (o := .tup [V.int (j : Nat)]) hq8).trans s8
  have s08 := s07.trans s78
  have e8 : (tupF n F).map V.int ++ [V.int (j : Nat)] = (tupF n F ++ [((j : Nat) : Int)]).map V.int := by rw [List.map_append]; rfl
  rw [e8] at h8
  have v4 := vd_ints h8 (by rw [List.length_append, tupF_len, List.length_singleton]; omega)
  refine ⟨.ref p, rfl, p, _, rfl, .inr (sameT s08 hp), fun l5 hl5 => ?_⟩
  have s89 := same_new (o := .lst ((tupF n F).map V.int)) hl5
  have h9 : upd H8 l5 (.lst ((tupF n F).map V.int)) l5 = some (.lst ((tupF n F).map V.int)) := upd_same
  generalize upd H8 l5 (.lst ((tupF n F).map V.int)) = H9 at *
  refine ⟨t, rfl, by show 1 ≤ sizeLine; decide, fun q10 hq10 => ⟨.int (n : Nat), rfl, q10, (n : Nat), [.int 0], rfl, rfl, seqT_new, by simp, by omega, by omega, by decide, fun p10 H10 s10 h10 => ?_⟩⟩
  have s910 := (same_new (o := .tup [V.int 0]) hq10).trans s10
  have e10 : (List.replicate ((n : Nat) : Int).toNat [V.int 0]).flatten = (tupF n fun _ => 0).map V.int := (rep_row n 0).trans rowV_tup
  rw [e10] at h10
  have v8 := vd_ints h10 (by rw [tupF_len]; omega)
  refine ⟨by show 8 ≤ sizeLine; decide, fun dl hdl2 => ?_⟩
  have sF := same_new (o := .lst [V.ref p4, V.ref sw, V.ref p7, V.ref p8, V.ref l5, V.non, t, V.ref p10]) hdl2
  have s0F := ((s08.trans s89).trans s910).trans sF
  have s4F := (((((s5.trans s6).trans s7).trans s78).trans s89).trans s910).trans sF
  have s7F := ((s78.trans s89).trans s910).trans sF
  have s8F := (s89.trans s910).trans sF
  have s9F := s910.trans sF
  refine R17.mk rt (e1.same s0F) seqL_new fun v hv => ?_
  simp only [List.mem_cons, List.not_mem_nil, or_false] at hv
  rcases hv with rfl | rfl | rfl | rfl | rfl | rfl | rfl | rfl
  · exact ⟨_, v1.same s4F⟩
  · exact ⟨_, vd_ints (sameT s0F hsw) (by rw [tupF_len]; omega)⟩
  · exact ⟨_, v3.same s7F⟩
  · exact ⟨_, v4.same s8F⟩
  · exact ⟨_, .inl ⟨rfl, known_lst (s9F _ _ h9)⟩⟩
  · exact ⟨_, vd_non⟩
  · exact ⟨_, ht.same s0F⟩
  · exact ⟨_, v8.same sF⟩
theorem law15 (k : Kit P K mg fa fd C fRI tk) (hg : A.guards = some []) (hr : Room 32 (A.deeper (envOfC "law" (defScope sLaw) s.heap.objs.size f cdv))) : PSs (lawX P w K mg base f cdv A outer s H0 E) (lawT 15) (R15 K) := by
  refine imp_pss (pss_cons (ps_set (i := 16) scLaw.nd rfl (Or.inl rfl) (pe_callTy call_tupO (by rfl) k.B.tuple b_tuple (pa_cons (pe_lc (own := [("_law_one", 11)]) (g := gName 11) (tt := tYes)
        (te := tIf (tTest (tOp rEq (tVar 11) (tVar 13))) (tOp (rIxT K) (tVar 6) (tVar 14)) (tIf (tTest (tOp rEq (tVar 11) (tVar 14))) (tOp (rIxT K) (tVar 6) (tVar 13)) (tOp (rIxT K) (tVar 6) (tVar 11)))) rfl scLaw.nd
        (pi_range1 (by rfl) k.B.range (pa_cons (pv 7) pa_nil)) (blkOk_by (N := NL) (sc := defScope sLaw) (by decide +kernel))
        (fun _ _ _ _ _ => pg_name (i := 11) scLaw.nd rfl (Or.inl rfl)) (fun _ _ _ _ _ => pts_nil)
        (fun _ _ _ _ _ => pe_ifExp (pt_cmpR op_eq (pv 11) (pv 13) (nomark _)) (pe_ix ix_tup (pv 6) (pv 14) (fun _ _ => rfl)) (pe_ifExp (pt_cmpR op_eq (pv 11) (pv 14) (nomark _)) (pe_ix ix_tup (pv 6) (pv 13) (fun _ _ => rfl)) (pe_ix ix_tup (pv 6) (pv 11) (fun _ _ => rfl))))) pa_nil))) (law16 k hg hr)) (fun D σ H h => ?_)
  obtain ⟨rt, h, l, a, b, n, n2, m, g, p, F, i, j, t, o, x0, x2, x3, x8, x9, x10, x11, x12, x16, x17, x18, x19, x20, x21, x22, rfl, e1, hp, hi, hj, ht⟩ := h
  have hn := e1.z
  refine ⟨.int (n : Nat), rfl, (n : Nat), rfl, by omega, by omega, fun D2 hD => ?_⟩
  rw [Int.toNat_natCast]
  refine lc_it (walk_range0 (n := n)) (fun x H1 => Same H H1 ∧ H1 D2 = some (.lst ((tupF x fun x => if x = i then F j else if x = j then F i else F x).map V.int))) ⟨same_new hD, upd_same⟩ (fun _ _ _ _ => trivial) (fun x y H2 H1 hx hP hY => ?_) (fun H1 hP => ?_)
  · obtain ⟨rfl, rfl⟩ := hY
    obtain ⟨s1, hD1⟩ := hP
    have hp1 := sameT s1 hp
    have fin : ∀ v : Nat, v = (if x = i then F j else if x = j then F i else F x) → ∃ acc, H1 D2 = some (.lst acc) ∧ acc.length < sizeLine ∧ Same H (upd H1 D2 (.lst (acc ++ [V.int (v : Nat)]))) ∧ upd H1 D2 (.lst (acc ++ [V.int (v : Nat)])) D2 = some (.lst ((tupF (x + 1) fun x => if x = i then F j else if x = j then F i else F x).map V.int)) := fun v hv => by
      refine ⟨_, hD1, by rw [List.length_map, tupF_len]; exact szl (by omega), fun c o z => ?_, ?_⟩
      · rw [upd_ne (ne_of_none z hD)]
        exact s1 c o z
      · rw [upd_same, hv]
        unfold tupF
        rw [List.range_succ, List.map_append, List.map_append]
        rfl
    refine ⟨rfl, tyes ⟨.int (x : Nat), rfl, .int (i : Nat), rfl, rfl, _, rfl, ?_⟩⟩
    by_cases ex : x = i
    · rw [ex, decide_eq_true rfl]
      rw [ex] at fin
      exact iteT (ix_tupF hp1 hj (var_is rfl) (var_is rfl) (fin _ (by rw [if_pos rfl])))
    · have : decide (V.int (x : Nat) = V.int (i : Nat)) = false := decide_eq_false fun z => ex (Int.ofNat.inj (V.int.inj z))
      rw [this]
      refine iteF ⟨.int (x : Nat), rfl, .int (j : Nat), rfl, rfl, _, rfl, ?_⟩
      by_cases ey : x = j
      · rw [ey, decide_eq_true rfl]
        rw [ey] at fin ex
        exact iteT (ix_tupF hp1 hi (var_is rfl) (var_is rfl) (fin _ (by rw [if_neg ex, if_pos rfl])))
      · have : decide (V.int (x : Nat) = V.int (j : Nat)) = false := decide_eq_false fun z => ey (Int.ofNat.inj (V.int.inj z))
        rw [this]
        exact iteF (ix_tupF hp1 hx (var_is rfl) (var_is rfl) (fin _ (by rw [if_neg ex, if_neg ey])))
  · obtain ⟨s1, hD1⟩ := hP
    refine ⟨D2, _, rfl, .inl (.inl hD1), fun q hq => ?_⟩
    have s2 := s1.trans (same_new (o := .tup ((tupF n fun x => if x = i then F j else if x = j then F i else F x).map V.int)) hq)
    exact R16.mk rt (e1.same s2) (sameT s2 hp) hi hj (ht.same s2) seqT_new
theorem law14 (k : Kit P K mg fa fd C fRI tk) (hg : A.guards = some []) (hr : Room 32 (A.deeper (envOfC "law" (defScope sLaw) s.heap.objs.size f cdv))) : PSs (lawX P w K mg base f cdv A outer s H0 E) (lawT 14) (R14 K) := by
  refine imp_pss (pss_cons (ps_set (i := 15) scLaw.nd rfl (Or.inl rfl) (pe_call k.pick (hr.mono (by decide)) (by rfl) k.d23.g k.d23.F.kp k.d23.b .nil pass0 (pa_cons (pv 1) (pa_cons (pe_lst
      (pa_cons (pv 14) (pa_cons (pv 14) (pa_cons (pv 7) (pa_cons (pe_op op_sub pe_int pe_int) (pa_cons pe_non (pa_cons (pe_callTy call_str_int (by rfl) k.B.str b_str (pa_cons (pv 14) pa_nil)) (pa_cons (pe_cmpR (op_eqD hr.units) (pv 6) (pv 6) (nomark _))
      (pa_cons (pe_lst (pa_cons (pv 14) pa_nil)) (pa_cons (pe_tup (pa_cons (pv 14) pa_nil)) pa_nil)))))))))) pa_nil)))) (law15 k hg hr)) (fun D σ H h => ?_)
  obtain ⟨rt, h, l, a, b, n, n2, m, g, p, F, i, j, x0, x2, x3, x8, x9, x10, x11, x12, x15, x16, x17, x18, x19, x20, x21, x22, rfl, e1, hp, hi, hj⟩ := h
  have hn := e1.z
  obtain ⟨is, st, y⟩ := e1.hp
  have yes1 : ∀ {c : Addr}, H c = none → c ≠ h ∧ c ≠ l := fun {c} hc => ⟨fun z => (by rw [z, y.at_h] at hc; cases hc), fun z => (by rw [z, y.at_l] at hc; cases hc)⟩
  have hlog : ((j : Nat) : Int).natAbs.log2 < 1920 := by
    have : ((j : Nat) : Int).natAbs = j := rfl
    rw [this]
    have := Nat.log2_le_self j
    omega
  refine ⟨.ref h, rfl, .int (j : Nat), rfl, .int (j : Nat), rfl, .int (n : Nat), rfl, 0, 1, rfl, rfl, .int (j : Nat), rfl, (j : Nat), rfl, hlog, .ref p, rfl, .ref p, rfl, _, _, dp_tints hp, dp_tints hp, shapedT _, shapedT _, .int (j : Nat), rfl, by show 1 ≤ sizeLine; decide, fun e he => ⟨.int (j : Nat), rfl, by show 1 ≤ sizeLine; decide, fun tt htt => ⟨by show 9 ≤ sizeLine; decide, fun dl hdl => ?_⟩⟩⟩
  have z1 := same_new (o := .lst [V.int (j : Nat)]) he
  have z2 := z1.trans (same_new (o := .tup [V.int (j : Nat)]) htt)
  have ne := yes1 he
  have nl := yes1 (z2.free hdl)
  have he3 := (same_new (o := .tup [V.int (j : Nat)]) htt) _ _ (upd_same (H := H) (a := e) (o := .lst [V.int (j : Nat)]))
  have ht3 : SqT K (upd (upd H e (.lst [V.int (j : Nat)])) tt (.tup [V.int (j : Nat)])) tt [V.int (j : Nat)] := seqT_new
  generalize upd (upd H e (.lst [V.int (j : Nat)])) tt (.tup [V.int (j : Nat)]) = H2 at *
  refine ⟨h, l, dl, _, rfl, seqL_new, nl.1, nl.2, by show 0 < 9; omega, by show 9 ≤ 1000; omega, e1.hp.same (z2.trans (same_new hdl)), fun v H4 hv hx4 hB => ?_⟩
  have sD := same_new (o := .lst [V.int (j : Nat), V.int (j : Nat), V.int (n : Nat), V.int (0 - 1), V.non, V.str (toString ((j : Nat) : Int)), V.bl (PyData.eqv (.tuple ((tupF n F).map PyData.int)) (.tuple ((tupF n F).map PyData.int))), V.ref e, V.ref tt]) hdl
  have hp2 := e1.hp.same (z2.trans sD)
  have hp4 : SqT K H4 p ((tupF n F).map V.int) := sqT_but (sameT (z2.trans sD) hp) hp2 hB
  have e4 := (e1.same (z2.trans sD)).but hx4 hB
  have ht4 : SqT K H4 tt ([((j : Nat) : Int)].map V.int) := sqT_but (sameT sD ht3) hp2 hB
  have he4 : H4 e = some (.lst [V.int (j : Nat)]) := hB _ _ (sD _ _ he3) ne.1 ne.2
  obtain ⟨o, ho⟩ : ∃ o, VD K H4 v o := by
    simp only [List.mem_cons, List.not_mem_nil, or_false] at hv
    rcases hv with rfl | rfl | rfl | rfl | rfl | rfl | rfl | rfl | rfl
    · exact ⟨_, .inl ⟨rfl, known_int _⟩⟩
    · exact ⟨_, .inl ⟨rfl, known_int _⟩⟩
    · exact ⟨_, .inl ⟨rfl, known_int _⟩⟩
    · exact ⟨_, .inl ⟨rfl, known_int _⟩⟩
    · exact ⟨_, vd_non⟩
    · exact ⟨_, .inl ⟨rfl, known_str _⟩⟩
    · exact ⟨_, .inl ⟨rfl, known_bl _⟩⟩
    · exact ⟨_, .inl ⟨rfl, known_lst he4⟩⟩
    · exact ⟨_, vd_ints ht4 (by show 1 ≤ 1000; omega)⟩
  exact R15.mk rt e4 hp4 hi hj ho
theorem law13 (k : Kit P K mg fa fd C fRI tk) (hg : A.guards = some []) (hr : Room 32 (A.deeper (envOfC "law" (defScope sLaw) s.heap.objs.size f cdv))) : PSs (lawX P w K mg base f cdv A outer s H0 E) (lawT 13) (R13 K) := by
  refine imp_pss (pss_cons (ps_asg (pe_tup (pa_cons (pe_call k.draw (hr.mono (by decide)) (by rfl) k.d22.g k.d22.F.kp k.d22.b .nil pass0 (pa_cons (pv 1) (pa_cons (pv 7) pa_nil))) (pa_cons (pe_call k.draw (hr.mono (by decide)) (by rfl) k.d22.g k.d22.F.kp k.d22.b .nil pass0 (pa_cons (pv 1) (pa_cons (pv 7) pa_nil))) pa_nil)))
      (pg_tup (n := 2) rfl (pgs_cons (pg_name (i := 13) scLaw.nd rfl (Or.inr rfl)) (pgs_cons (pg_name (i := 14) scLaw.nd rfl (Or.inr rfl)) pgs_nil)))) (law14 k hg hr)) (fun D σ H h => ?_)
  obtain ⟨rt, h, l, a, b, n, n2, m, g, p, F, x0, x2, x3, x8, x9, x10, x11, x12, x13, x14, x15, x16, x17, x18, x19, x20, x21, x22, rfl, e1, hp⟩ := h
  have hn := e1.z
  refine ⟨.ref h, rfl, .int (n : Nat), rfl, h, l, n, rfl, e1.G.pos, by omega, e1.hp, fun i H1 hi hx1 hB1 => ?_⟩
  have e2 := e1.but hx1 hB1
  have hp2 := sqT_but hp e1.hp hB1
  refine ⟨.ref h, rfl, .int (n : Nat), rfl, h, l, n, rfl, e1.G.pos, by omega, hx1, fun j H2 hj hx2 hB2 => ⟨by show 2 ≤ sizeLine; decide, fun q hq => ?_⟩⟩
  have e3 := e2.but hx2 hB2
  have hp3 := sqT_but hp2 hx1 hB2
  refine ⟨q, _, rfl, seqT_new, rfl, _, _, rfl, _, _, rfl, rfl, ?_⟩
  exact R14.mk rt (e3.same (same_new hq)) (sameT (same_new hq) hp3) hi hj
theorem law12 (k : Kit P K mg fa fd C fRI tk) (hg : A.guards = some []) (hr : Room 32 (A.deeper (envOfC "law" (defScope sLaw) s.heap.objs.size f cdv))) : PSs (lawX P w K mg base f cdv A outer s H0 E) (lawT 12) (R12 K) := by
  refine imp_pss (pss_cons (ps_set (i := 6) scLaw.nd rfl (Or.inr rfl) (pe_ifExp (pt_cmp (pc_isN (pv 6))) (pe_callTy call_tupO (by rfl) k.B.tuple b_tuple (pa_cons (pe_call k.order (hr.mono (by decide)) (by rfl) k.d24.g k.d24.F.kp k.d24.b .nil pass0 (pa_cons (pv 1) (pa_cons (pv 7) pa_nil))) pa_nil)) (pv 6))) (law13 k hg hr)) (fun D σ H h => ?_)
  obtain ⟨rt, h, l, a, b, n, n2, m, g, v, x0, x2, x3, x8, x9, x10, x11, x12, x13, x14, x15, x16, x17, x18, x19, x20, x21, x22, rfl, e1, hv⟩ := h
  have hn := e1.z
  refine ⟨v, rfl, _, rfl, ?_⟩
  rcases hv with ⟨rfl, _⟩ | ⟨p, F, rfl, _, hp, _⟩
  · refine iteT ⟨.ref h, rfl, .int (n : Nat), rfl, h, l, n, rfl, by omega, e1.hp, fun p H1 os hp0 hp1 hperm hx hB => ⟨p, _, rfl, .inl (.inl hp1), fun q hq => ?_⟩⟩
    obtain ⟨F, ef, _⟩ := perm_fun hperm
    rw [ef]
    exact R13.mk rt ((e1.but hx hB).same (same_new hq)) seqT_new
  · exact iteF ⟨.ref p, rfl, R13.mk rt e1 hp⟩
theorem law11 (k : Kit P K mg fa fd C fRI tk) (hg : A.guards = some []) (hr : Room 32 (A.deeper (envOfC "law" (defScope sLaw) s.heap.objs.size f cdv))) : PSs (lawX P w K mg base f cdv A outer s H0 E) (lawT 11) (R11 K) := by
  refine imp_pss (pss_cons (ps_if (PW.pt (pw_or (pt_not (pt_val (pe_call k.isMatching (hr.mono (by decide)) (by rfl) k.d15.g k.d15.F.kp k.d15.b .nil pass0 (pa_cons (pv 4) (pa_cons (pe_call k.opposite (hr.mono (by decide)) (by rfl) k.d14.g k.d14.F.kp k.d14.b .nil pass0 (pa_cons (pv 4) pa_nil)) (pa_cons (pv 12) pa_nil))))))
      (pw_or1 (pt_cmpR op_ne (pe_callB (cr_repr hr.units hg) (by rfl) k.B.repr b_repr (pa_cons (pe_call k.isMatching (hr.mono (by decide)) (by rfl) k.d15.g k.d15.F.kp k.d15.b .nil pass0 (pa_cons (pv 4) (pa_cons (pv 4) (pa_cons (pv 12) pa_nil)))) pa_nil))
        (pe_callB (cr_repr hr.units hg) (by rfl) k.B.repr b_repr (pa_cons (pe_call k.commutes (hr.mono (by decide)) (by rfl) k.d30.g k.d30.F.kp k.d30.b .nil pass0 (pa_cons (pv 4) pa_nil)) pa_nil)) (nomark _))))) (pss_one (ps_ret pe_bl)) pss_nil) (law12 k hg hr)) (fun D σ H h => ?_)
  obtain ⟨rt, h, l, a, b, n, n2, m, g, v, q, F, x0, x2, x3, x8, x9, x10, x11, x13, x14, x15, x16, x17, x18, x19, x20, x21, x22, rfl, e1, hv, hq, hF⟩ := h
  have hn := e1.z
  have ta := e1.ta.tab
  have vz : (tupF n F).length ≤ 1000 := by rw [tupF_len]; omega
  refine ⟨.ref a, rfl, .ref a, rfl, a, n, m, rfl, ta, by omega, fun p H1 s1 hT => ⟨.ref q, rfl, a, p, .ref q, n, n, m, fun i j => m j i, some (tupF n F), rfl, ta.same s1, hT, vd_ints (sameT s1 hq) vz, by omega, e1.G.lt, fun H2 c s2 hc => ⟨c, rfl, ?_⟩⟩⟩
  obtain rfl : c = true := hc.mpr ((isoT_some e1.G.lt).mpr (inv_opp e1.G hF))
  have s02 := s1.trans s2
  refine iteF ⟨.ref a, rfl, .ref a, rfl, .ref q, rfl, a, a, .ref q, n, n, m, m, some (tupF n F), rfl, ta.same s02, ta.same s02, vd_ints (sameT s02 hq) vz, by omega, e1.G.lt, fun H3 c1 s3 hc1 => ⟨.bl c1, _, rfl, reprB, ?_⟩⟩
  have s03 := s02.trans s3
  refine ⟨.ref a, rfl, a, n, m, rfl, ta.same s03, by omega, fun c2 hc2 => ⟨.bl c2, _, rfl, reprB, rfl, _, rfl, ?_⟩⟩
  obtain rfl : c1 = c2 := Bool.eq_iff_iff.mpr (hc1.trans (((isoT_some e1.G.lt).trans (inv_comm e1.G hF)).trans hc2.symm))
  rw [decide_eq_true rfl]
  exact iteF (R12.mk rt (e1.same s03) (hv.same s03))
theorem law10 (k : Kit P K mg fa fd C fRI tk) (hg : A.guards = some []) (hr : Room 32 (A.deeper (envOfC "law" (defScope sLaw) s.heap.objs.size f cdv))) : PSs (lawX P w K mg base f cdv A outer s H0 E) (lawT 10) (R6 K) := by
  refine imp_pss (pss_cons (ps_set (i := 12) scLaw.nd rfl (Or.inl rfl) (pe_callTy call_tupO (by rfl) k.B.tuple b_tuple (pa_cons (pe_lc (own := [("_law_one", 11)]) (g := gName 11) (tt := tYes) (te := tCall (spInverse K) [] E0 (tCons (tVar 4) (tCons (tVar 11) tNil))) rfl scLaw.nd
        (pi_range1 (by rfl) k.B.range (pa_cons (pv 7) pa_nil)) (blkOk_by (N := NL) (sc := defScope sLaw) (by decide +kernel))
        (fun _ _ _ _ _ => pg_name (i := 11) scLaw.nd rfl (Or.inl rfl)) (fun _ _ _ _ _ => pts_nil)
        (fun _ _ _ _ _ => pe_call k.inverse (hr.mono (by decide)) (by rfl) k.d12.g k.d12.F.kp k.d12.b .nil pass0 (pa_cons (pv 4) (pa_cons (pv 11) pa_nil)))) pa_nil))) (law11 k hg hr)) (fun D σ H h => ?_)
  obtain ⟨rt, h, l, a, b, n, n2, m, g, v, c, x0, x2, x3, x8, x9, x11, x12, x13, x14, x15, x16, x17, x18, x19, x20, x21, x22, rfl, e1, hv, hc⟩ := h
  have hn := e1.z
  obtain ⟨F, hF⟩ := inv_has e1.G
  refine ⟨.int (n : Nat), rfl, (n : Nat), rfl, by omega, by omega, fun D2 hD => ?_⟩
  rw [Int.toNat_natCast]
  refine lc_it (walk_range0 (n := n)) (fun x H1 => Same H H1 ∧ H1 D2 = some (.lst ((tupF x F).map V.int))) ⟨same_new hD, upd_same⟩ (fun _ _ _ _ => trivial) (fun x y H2 H1 hx hP hY => ?_) (fun H1 hP => ?_)
  · obtain ⟨rfl, rfl⟩ := hY
    obtain ⟨s1, hD1⟩ := hP
    refine ⟨rfl, tyes ⟨.ref a, rfl, .int (x : Nat), rfl, a, n, x, F x, m, rfl, e1.ta.same s1, hx, (hF x hx).1, (hF x hx).2, fun y hy => inv_first e1.G hF hx hy, _, hD1, by rw [List.length_map, tupF_len]; exact szl (by omega), fun c o z => ?_, ?_⟩⟩
    · rw [upd_ne (ne_of_none z hD)]
      exact s1 c o z
    · rw [upd_same]
      unfold tupF
      rw [List.range_succ, List.map_append, List.map_append]
      rfl
  · obtain ⟨s1, hD1⟩ := hP
    refine ⟨D2, _, rfl, .inl (.inl hD1), fun q hq => ?_⟩
    have s2 := s1.trans (same_new (o := .tup ((tupF n F).map V.int)) hq)
    exact R11.mk rt (e1.same s2) (hv.same s2) seqT_new hF
end
end K38

set_option Elab.async false
set_option linter.all false
set_option maxRecDepth 100000
set_option maxHeartbeats 4000000
/-! LC: the law's first tests: matching against the searches. -/
namespace K38
open PySem PySem.Spec PyProof.Rows L2
theorem shapedP (ns : List Int) : SeqAt.shaped (.tuple [.int 0, .tuple (ns.map PyData.int)]) = true := by
  have h := shapedT ns
  simp [SeqAt.shaped, PyData.canLay0, PyData.canLayAll0, PyData.depth, PyData.depthAll, PySem.W.ke_canLayAll0, PySem.W.ke_depthAll]
theorem NoIso.of {n : Nat} {m : Nat → Nat → Nat} {n2 : Nat} {g : Nat → Nat → Nat} (h : ¬ HasIso n m n2 g) : NoIso n m n2 g := fun e f hf => h ⟨e, f, hf⟩
theorem isoT_has {n : Nat} {m : Nat → Nat → Nat} {n2 : Nat} {g : Nat → Nat → Nat} {o : Option (List Int)} (h : IsoT n m n2 g o) : HasIso n m n2 g := ⟨h.1, h.2.choose, h.2.choose_spec.2⟩
section
variable {P : Program} {w : World} {K : PySem.W.Frag} {mg : Str → Option Value} {base : Heap} {fa : Nat → Addr} {fd : Nat → FuncData} {C fRI : Addr} {tk : Tok}
variable {f : Addr} {cdv : Value} {A : Around} {outer : List Env} {s : Shared} {H0 : Hp} {E : XK}
theorem law9 (k : Kit P K mg fa fd C fRI tk) (hg : A.guards = some []) (hr : Room 32 (A.deeper (envOfC "law" (defScope sLaw) s.heap.objs.size f cdv))) : PSs (lawX P w K mg base f cdv A outer s H0 E) (lawT 9) (R6 K) := by
  have kb : KBinds K (fd 19) ["table", "goal"] ["goal", "table"] gR gR := kbR k.d19.F (by simp) fun _ _ _ _ _ _ ws hl => match ws, hl with | [_, _], _ => rfl
  refine imp_pss (pss_cons (ps_if (PW.pt (pw_and (pt_cmpR op_le (pv 7) pe_int (nomark _)) (pw_and (pt_val (pv 10)) (pw_and1 (pt_not (pt_val (pe_call k.leads (hr.mono (by decide)) (by rfl) k.d31.g k.d31.F.kp k.d31.b .nil pass0 (pa_cons (pv 5) (pa_cons (pv 4)
        (pa_cons (pe_callK0 k.matching (hr.mono (by decide)) (by rfl) k.d19.g k.d19.F.kp kb passL (pk_cons (pv 4) (pk_cons (pv 5) pk_nil))) pa_nil)))))))))) (pss_one (ps_ret pe_bl)) pss_nil) (law10 k hg hr)) (fun D σ H h => ?_)
  obtain ⟨rt, h, l, a, b, n, n2, m, g, v, c, x0, x2, x3, x8, x9, x11, x12, x13, x14, x15, x16, x17, x18, x19, x20, x21, x22, rfl, e1, hv, hc⟩ := h
  have hn := e1.z
  have hn2 := e1.z2
  have ta := e1.ta.tab
  have tb := e1.tb.tab
  refine ⟨.int (n : Nat), rfl, (n : Nat), 8, rfl, rfl, _, rfl, ite2 (fun _ => ?_) (fun _ => iteF (R6.mk rt e1 hv hc))⟩
  refine ⟨.bl c, rfl, c, rfl, ?_⟩
  cases c with
  | false => exact iteF (iteF (R6.mk rt e1 hv hc))
  | true =>
    have hi := (e1.has.mpr (hc.mp rfl)).symm e1.G
    refine iteT ⟨.ref b, rfl, .ref a, rfl, .ref a, rfl, .ref b, rfl, b, a, n2, n, g, m, rfl, tb, ta, e1.G', e1.G, by omega, by omega, fun h => absurd h (by omega), fun _ _ => ⟨fun H1 s1 hno => absurd hi hno.not, fun H1 p F s1 en hp hl => ?_⟩⟩
    subst en
    refine ⟨b, a, .ref p, n, n, g, m, some (tupF n F), rfl, tb.same s1, ta.same s1, vd_ints hp (by rw [tupF_len]; omega), by omega, e1.G'.lt, fun H2 c s2 hc2 => ⟨c, rfl, ?_⟩⟩
    obtain rfl : c = true := hc2.mpr ((isoT_some e1.G'.lt).mpr hl.is)
    have sx := s1.trans s2
    exact iteF (R6.mk rt (e1.same sx) (hv.same sx) hc)
theorem law8 (k : Kit P K mg fa fd C fRI tk) (hg : A.guards = some []) (hr : Room 32 (A.deeper (envOfC "law" (defScope sLaw) s.heap.objs.size f cdv))) : PSs (lawX P w K mg base f cdv A outer s H0 E) (lawT 8) (R6 K) := by
  refine imp_pss (pss_cons (ps_if (PW.pt (pw_and (pt_chain op_lt op_le pe_int (pv 7) pe_int) (pw_and (pt_val (pv 10)) (pw_and1 (pt_cmpR (op_notInT (hu65 hr)) (pe_call k.least (hr.mono (by decide)) (by rfl) k.d34.g k.d34.F.kp k.d34.b .nil pass0 (pa_cons (pv 4) (pa_cons (pv 5) pa_nil)))
        (pe_tup (pa_cons pe_int (pa_cons (pv 6) pa_nil))) (by rfl)))))) (pss_one (ps_ret pe_bl)) pss_nil) (law9 k hg hr)) (fun D σ H h => ?_)
  obtain ⟨rt, h, l, a, b, n, n2, m, g, v, c, x0, x2, x3, x8, x9, x11, x12, x13, x14, x15, x16, x17, x18, x19, x20, x21, x22, rfl, e1, hv, hc⟩ := h
  have hn := e1.z
  have hn2 := e1.z2
  have ta := e1.ta.tab
  have tb := e1.tb.tab
  refine ⟨.int (n : Nat), rfl, 6, (n : Nat), rfl, rfl, _, rfl, ite2 (fun e6 => ?_) (fun _ => ⟨_, rfl, iteF (iteF (R6.mk rt e1 hv hc))⟩)⟩
  have e6 := of_decide_eq_true e6
  refine ⟨(n : Nat), 12, rfl, rfl, _, rfl, ite2 (fun _ => ?_) (fun _ => iteF (R6.mk rt e1 hv hc))⟩
  refine ⟨.bl c, rfl, c, rfl, ?_⟩
  cases c with
  | false => exact iteF (iteF (R6.mk rt e1 hv hc))
  | true =>
    obtain ⟨en, f0, hf0⟩ := e1.has.mpr (hc.mp rfl)
    rcases hv with ⟨rfl, hno⟩ | ⟨p, F, rfl, _, hp, hl⟩
    · exact absurd hf0 (hno en f0)
    have en := en.symm
    subst en
    refine iteT ⟨.ref a, rfl, .ref b, rfl, a, b, n, m, g, rfl, ta, tb, e1.G, e1.G', by omega, by omega, ⟨f0, hf0⟩, fun H1 s1 => ?_, fun H1 p2 F2 s1 hp2 hl2 => ?_⟩
    · refine ⟨.ref p, rfl, by show 2 ≤ sizeLine; decide, fun q hq => ?_⟩
      have s2 := s1.trans (same_new (o := .tup [V.int 0, V.ref p]) hq)
      refine ⟨.int 0, [.int 0, .tuple ((tupF n F).map PyData.int)], .int 0, .tup seqT_new (.cons (.int 0) (.cons (dp_tints (sameT s2 hp)) .nil)), rfl, shapedP _, _, rfl, ?_⟩
      have e0 : ([PyData.int 0, PyData.tuple ((tupF n F).map PyData.int)].any fun z => PyData.eqv z (.int 0)) = true := by simp [PyData.eqv]
      rw [e0]
      exact iteF (R6.mk rt (e1.same s2) (.inr ⟨p, F, rfl, rfl, sameT s2 hp, hl⟩) hc)
    · refine ⟨.ref p, rfl, by show 2 ≤ sizeLine; decide, fun q hq => ?_⟩
      have s2 := s1.trans (same_new (o := .tup [V.int 0, V.ref p]) hq)
      refine ⟨.tuple ((tupF n F2).map PyData.int), [.int 0, .tuple ((tupF n F).map PyData.int)], dp_tints (sameT (same_new hq) hp2), .tup seqT_new (.cons (.int 0) (.cons (dp_tints (sameT s2 hp)) .nil)), shapedT _, shapedP _, _, rfl, ?_⟩
      have eF : tupF n F = tupF n F2 := same_map (hl.uniq hl2)
      have e0 : ([PyData.int 0, PyData.tuple ((tupF n F).map PyData.int)].any fun z => PyData.eqv z (.tuple ((tupF n F2).map PyData.int))) = true := by
        rw [eF]
        simp only [List.any_cons, List.any_nil, PyData.eqv, PySem.W.ked_eqvAll, decide_true, Bool.or_true, Bool.true_or]
      rw [e0]
      exact iteF (R6.mk rt (e1.same s2) (.inr ⟨p, F, rfl, rfl, sameT s2 hp, hl⟩) hc)
theorem law7 (k : Kit P K mg fa fd C fRI tk) (hg : A.guards = some []) (hr : Room 32 (A.deeper (envOfC "law" (defScope sLaw) s.heap.objs.size f cdv))) : PSs (lawX P w K mg base f cdv A outer s H0 E) (lawT 7) (R6 K) := by
  refine imp_pss (pss_cons (ps_if (PW.pt (pw_and (pt_cmpR op_le (pv 7) pe_int (nomark _)) (pw_and (pt_cmpR op_eq (pe_callB call_len_seq (by rfl) k.B.len b_len (pa_cons (pv 5) pa_nil)) (pv 7) (nomark _)) (pw_and1 (pt_cmpR op_ne (pe_callB (cr_repr hr.units hg) (by rfl) k.B.repr b_repr (pa_cons (pv 6) pa_nil))
        (pe_callB (cr_repr hr.units hg) (by rfl) k.B.repr b_repr (pa_cons (pe_call k.first (hr.mono (by decide)) (by rfl) k.d32.g k.d32.F.kp k.d32.b .nil pass0 (pa_cons (pv 4) (pa_cons (pv 5) pa_nil))) pa_nil)) (nomark _)))))) (pss_one (ps_ret pe_bl)) pss_nil) (law8 k hg hr)) (fun D σ H h => ?_)
  obtain ⟨rt, h, l, a, b, n, n2, m, g, v, c, x0, x2, x3, x8, x9, x11, x12, x13, x14, x15, x16, x17, x18, x19, x20, x21, x22, rfl, e1, hv, hc⟩ := h
  have hn := e1.z
  have hn2 := e1.z2
  have ta := e1.ta.tab
  have tb := e1.tb.tab
  refine ⟨.int (n : Nat), rfl, (n : Nat), 6, rfl, rfl, _, rfl, ite2 (fun e6 => ?_) (fun _ => iteF (R6.mk rt e1 hv hc))⟩
  have e6 := of_decide_eq_true e6
  obtain ⟨xb, hb1, hb2⟩ := tb.len
  refine ⟨.ref b, rfl, b, xb, rfl, .inr hb1, .int (n : Nat), rfl, rfl, _, rfl, ite2 (fun en => ?_) (fun _ => iteF (R6.mk rt e1 hv hc))⟩
  rw [hb2] at en
  have en : n2 = n := Int.ofNat.inj (V.int.inj (of_decide_eq_true en))
  subst en
  rcases hv with ⟨rfl, hno⟩ | ⟨p, F, rfl, _, hp, hl⟩
  · refine ⟨.non, rfl, .non, "None", rfl, .inl ⟨rfl, rfl⟩, .ref a, rfl, .ref b, rfl, a, b, n2, m, g, rfl, ta, tb, e1.G, e1.G', by omega, fun H1 s1 _ => ?_, fun H1 p f s1 hp hl => absurd hl.is (hno rfl f)⟩
    refine ⟨.non, "None", rfl, .inl ⟨rfl, rfl⟩, rfl, _, rfl, ?_⟩
    rw [decide_eq_true rfl]
    exact iteF (R6.mk rt (e1.same s1) (.inl ⟨rfl, hno⟩) hc)
  · refine ⟨.ref p, rfl, .ref p, _, rfl, reprT hp (by omega) hl.is.lt, .ref a, rfl, .ref b, rfl, a, b, n2, m, g, rfl, ta, tb, e1.G, e1.G', by omega, fun H1 s1 hno => absurd hl.is (hno F), fun H1 p2 F2 s1 hp2 hl2 => ?_⟩
    have eF : tupF n2 F = tupF n2 F2 := same_map (hl.uniq hl2)
    refine ⟨.ref p2, _, rfl, reprT hp2 (by omega) hl2.is.lt, rfl, _, rfl, ?_⟩
    rw [eF, decide_eq_true rfl]
    exact iteF (R6.mk rt (e1.same s1) (.inr ⟨p, F, rfl, rfl, sameT s1 hp, hl⟩) hc)
theorem law6 (k : Kit P K mg fa fd C fRI tk) (hg : A.guards = some []) (hr : Room 32 (A.deeper (envOfC "law" (defScope sLaw) s.heap.objs.size f cdv))) : PSs (lawX P w K mg base f cdv A outer s H0 E) (lawT 6) (R6 K) := by
  refine imp_pss (pss_cons (ps_if (pt_not (pt_val (pv 10)))
      (pss_one (ps_if (PW.pt (pw_or (pt_cmp (pc_notN (pv 6))) (pw_or (pt_val (pe_call k.isMatching (hr.mono (by decide)) (by rfl) k.d15.g k.d15.F.kp k.d15.b .nil pass0 (pa_cons (pv 4) (pa_cons (pv 5) (pa_cons (pe_tupRg rfl (by rfl) k.B.tuple (prg_1 (by rfl) k.B.range (pv 7))) pa_nil)))))
        (pw_or1 (PW.pt (pw_and (pt_cmpR op_le (pv 7) pe_int (nomark _)) (pw_and1 (pt_cmp (pc_notN (pe_call k.matching (hr.mono (by decide)) (by rfl) k.d19.g k.d19.F.kp k.d19.b .nil passL (pa_cons (pv 5) (pa_cons (pv 4) pa_nil)))))))))))) (pss_one (ps_ret pe_bl)) pss_nil))
      (pss_one (ps_if (PW.pt (pw_or (pt_not (pt_val (pe_call k.leads (hr.mono (by decide)) (by rfl) k.d31.g k.d31.F.kp k.d31.b .nil pass0 (pa_cons (pv 4) (pa_cons (pv 5) (pa_cons (pv 6) pa_nil))))))
        (pw_or1 (pt_not (pt_val (pe_call k.isMatching (hr.mono (by decide)) (by rfl) k.d15.g k.d15.F.kp k.d15.b .nil pass0 (pa_cons (pv 4) (pa_cons (pv 5) (pa_cons (pv 6) pa_nil))))))))) (pss_one (ps_ret pe_bl)) pss_nil))) (law7 k hg hr)) (fun D σ H h => ?_)
  obtain ⟨rt, h, l, a, b, n, n2, m, g, v, c, x0, x2, x3, x8, x9, x11, x12, x13, x14, x15, x16, x17, x18, x19, x20, x21, x22, rfl, e1, hv, hc⟩ := h
  have hn := e1.z
  have hn2 := e1.z2
  have ta := e1.ta.tab
  have tb := e1.tb.tab
  refine ⟨.bl c, rfl, c, rfl, ?_⟩
  cases c with
  | false =>
    have hna : ¬ HasIso n m n2 g := fun z => by
      have := hc.mpr (e1.has.mp z)
      cases this
    rcases hv with ⟨rfl, hno⟩ | ⟨p, F, rfl, en, hp, hl⟩
    rotate_left
    · exact absurd ⟨en, F, hl.is⟩ hna
    refine iteT ⟨.non, rfl, _, rfl, iteF ?_⟩
    refine ⟨.ref a, rfl, .ref b, rfl, .int (n : Nat), rfl, (n : Nat), rfl, RgOk.of_le (by omega) (by omega) (by omega) (by omega), fun q hq => ?_⟩
    rw [rgV_ints]
    have sq := same_new (o := .tup ((tupF n fun i => i).map V.int)) hq
    refine ⟨a, b, .ref q, n, n2, m, g, some (tupF n fun i => i), rfl, ta.same sq, tb.same sq, vd_ints seqT_new (by rw [tupF_len]; omega), by omega, e1.G.lt, fun H2 c2 s2 hc2 => ⟨c2, rfl, ?_⟩⟩
    cases c2 with
    | true => exact absurd (isoT_has (hc2.mp rfl)) hna
    | false =>
      have sx := sq.trans s2
      have fin : ∀ H3, Same H2 H3 → R6 K D [x0, some (.ref h), x2, x3, some (.ref a), some (.ref b), some .non, some (.int (n : Nat)), x8, x9, some (.bl false), x11, x12, x13, x14, x15, x16, x17, x18, x19, x20, x21, x22] H3 := fun H3 s3 =>
        R6.mk rt (e1.same (sx.trans s3)) (.inl ⟨rfl, hno⟩) hc
      refine iteF ⟨.int (n : Nat), rfl, (n : Nat), 8, rfl, rfl, _, rfl, ite2 (fun _ => ?_) (fun _ => iteF (fin H2 (Same.refl _)))⟩
      refine ⟨.ref b, rfl, .ref a, rfl, b, a, n2, n, g, m, rfl, tb.same sx, ta.same sx, e1.G', e1.G, by omega, by omega, fun h => absurd h (by omega), fun _ _ => ⟨fun H3 s3 _ => ⟨_, rfl, iteF (fin H3 s3)⟩, fun H3 p F s3 en hp hl => ?_⟩⟩
      exact absurd (HasIso.symm ⟨en, F, hl.is⟩ e1.G') hna
  | true =>
    have hi := e1.has.mpr (hc.mp rfl)
    rcases hv with ⟨rfl, hno⟩ | ⟨p, F, rfl, en, hp, hl⟩
    · exact absurd hi hno.not
    have en := en.symm
    subst en
    have vz : (tupF n F).length ≤ 1000 := by rw [tupF_len]; omega
    refine iteF ⟨.ref a, rfl, .ref b, rfl, .ref p, rfl, a, b, .ref p, n, n, m, g, some (tupF n F), rfl, ta, tb, vd_ints hp vz, by omega, e1.G.lt, fun H1 c1 s1 hc1 => ⟨c1, rfl, ?_⟩⟩
    obtain rfl : c1 = true := hc1.mpr ((isoT_some e1.G.lt).mpr hl.is)
    refine iteF ⟨.ref a, rfl, .ref b, rfl, .ref p, rfl, a, b, .ref p, n, n, m, g, some (tupF n F), rfl, ta.same s1, tb.same s1, vd_ints (sameT s1 hp) vz, by omega, e1.G.lt, fun H2 c2 s2 hc2 => ⟨c2, rfl, ?_⟩⟩
    obtain rfl : c2 = true := hc2.mpr ((isoT_some e1.G.lt).mpr hl.is)
    have sx := s1.trans s2
    exact iteF (R6.mk rt (e1.same sx) (.inr ⟨p, F, rfl, rfl, sameT sx hp, hl⟩) hc)
theorem law5 (k : Kit P K mg fa fd C fRI tk) (hg : A.guards = some []) (hr : Room 32 (A.deeper (envOfC "law" (defScope sLaw) s.heap.objs.size f cdv))) : PSs (lawX P w K mg base f cdv A outer s H0 E) (lawT 5) (R5 K) := by
  refine imp_pss (pss_cons (ps_set (i := 10) scLaw.nd rfl (Or.inl rfl) (pe_and (pe_cmpR (op_eqLI hr.units) (pe_callB cr_sortedX (by rfl) k.B.sorted b_sorted (pa_cons (pv 8) pa_nil)) (pe_callB cr_sortedX (by rfl) k.B.sorted b_sorted (pa_cons (pv 9) pa_nil)) (nomark _))
      (pe_one (pe_cmpR op_eq (pe_call k.commutes (hr.mono (by decide)) (by rfl) k.d30.g k.d30.F.kp k.d30.b .nil pass0 (pa_cons (pv 4) pa_nil)) (pe_call k.commutes (hr.mono (by decide)) (by rfl) k.d30.g k.d30.F.kp k.d30.b .nil pass0 (pa_cons (pv 5) pa_nil)) (nomark _))))) (law6 k hg hr)) (fun D σ H h => ?_)
  obtain ⟨rt, h, l, a, b, n, n2, m, g, v, o1, o2, x0, x2, x3, x10, x11, x12, x13, x14, x15, x16, x17, x18, x19, x20, x21, x22, rfl, e1, hv, h1, h2⟩ := h
  have hn := e1.z
  have hn2 := e1.z2
  refine ⟨.ref o1, rfl, o1, ods n m, rfl, .inl (.inl (.inl h1)), by rw [ods_len]; omega, fun ms t1 hperm hsort ht1 => ?_⟩
  have s1 := same_new (o := .lst (ms.map V.int)) ht1
  refine ⟨.ref o2, rfl, o2, ods n2 g, rfl, .inl (.inl (.inl (s1 _ _ h2))), by rw [ods_len]; omega, fun ks t2 hperm2 hsort2 ht2 => ?_⟩
  have s2 := same_new (o := .lst (ks.map V.int)) ht2
  have sx := s1.trans s2
  have f1 : upd (upd H t1 (.lst (ms.map V.int))) t2 (.lst (ks.map V.int)) t1 = some (.lst (ms.map V.int)) := s2 _ _ upd_same
  have f2 : upd (upd H t1 (.lst (ms.map V.int))) t2 (.lst (ks.map V.int)) t2 = some (.lst (ks.map V.int)) := upd_same
  generalize upd (upd H t1 (.lst (ms.map V.int))) t2 (.lst (ks.map V.int)) = H2 at *
  refine ⟨t1, t2, ms, ks, rfl, rfl, .inl (.inl f1), .inl (.inl f2), _, rfl, ?_⟩
  have e2 := e1.same sx
  by_cases hms : ms = ks
  · rw [decide_eq_true hms]
    refine iteT ⟨.ref a, rfl, a, n, m, rfl, e2.ta.tab, by omega, fun c1 hc1 => ⟨.ref b, rfl, b, n2, g, rfl, e2.tb.tab, by omega, fun c2 hc2 => ⟨rfl, ?_⟩⟩⟩
    refine R6.mk rt e2 (hv.same sx) ?_
    rw [decide_eq_true_eq]
    constructor
    · intro e
      have e := V.bl.inj e
      subst hms
      exact ⟨hperm.symm.trans hperm2, by rw [← hc1, ← hc2, e]⟩
    · rintro ⟨_, z⟩
      rw [Bool.eq_iff_iff.mpr ((hc1.trans z).trans hc2.symm)]
  · rw [decide_eq_false hms]
    refine iteF (R6.mk rt e2 (hv.same sx) ⟨fun z => Bool.noConfusion z, fun z => ?_⟩)
    exact absurd (sorted_uniq (hperm.trans (z.1.trans hperm2.symm)) hsort hsort2) hms
theorem law4 (k : Kit P K mg fa fd C fRI tk) (hg : A.guards = some []) (hr : Room 32 (A.deeper (envOfC "law" (defScope sLaw) s.heap.objs.size f cdv))) : PSs (lawX P w K mg base f cdv A outer s H0 E) (lawT 4) (R4 K) := by
  refine imp_pss (pss_cons (ps_par (i := 8) (j := 9) rfl scLaw.nd rfl rfl (by decide) rfl rfl (pa_cons (pe_call k.lorders (hr.mono (by decide)) (by rfl) k.d29.g k.d29.F.kp k.d29.b .nil pass0 (pa_cons (pv 4) pa_nil)) (pa_cons (pe_call k.lorders (hr.mono (by decide)) (by rfl) k.d29.g k.d29.F.kp k.d29.b .nil pass0 (pa_cons (pv 5) pa_nil)) pa_nil)) (by rfl)) (law5 k hg hr)) (fun D σ H h => ?_)
  obtain ⟨rt, h, l, a, b, n, n2, m, g, v, x0, x2, x3, x8, x9, x10, x11, x12, x13, x14, x15, x16, x17, x18, x19, x20, x21, x22, rfl, e1, hv⟩ := h
  have hn := e1.z
  have hn2 := e1.z2
  refine ⟨.ref a, rfl, a, n, m, rfl, e1.ta.tab, e1.G, by omega, fun o1 H1 s1 _ h1 => ⟨.ref b, rfl, b, n2, g, rfl, e1.tb.tab.same s1, e1.G', by omega, fun o2 H2 s2 _ h2 => ⟨_, _, rfl, ?_⟩⟩⟩
  have sx := s1.trans s2
  exact R5.mk rt (e1.same sx) (hv.same sx) (s2 _ _ h1) h2
theorem law3 (k : Kit P K mg fa fd C fRI tk) (hg : A.guards = some []) (hr : Room 32 (A.deeper (envOfC "law" (defScope sLaw) s.heap.objs.size f cdv))) : PSs (lawX P w K mg base f cdv A outer s H0 E) (lawT 3) (R3 K) := by
  refine imp_pss (pss_cons (ps_asg (pe_tup (pa_cons (pe_call k.matching (hr.mono (by decide)) (by rfl) k.d19.g k.d19.F.kp k.d19.b .nil passL (pa_cons (pv 4) (pa_cons (pv 5) pa_nil))) (pa_cons (pe_callB call_len_seq (by rfl) k.B.len b_len (pa_cons (pv 4) pa_nil)) pa_nil)))
      (pg_tup (n := 2) rfl (pgs_cons (pg_name (i := 6) scLaw.nd rfl (Or.inr rfl)) (pgs_cons (pg_name (i := 7) scLaw.nd rfl (Or.inl rfl)) pgs_nil)))) (law4 k hg hr)) (fun D σ H h => ?_)
  obtain ⟨rt, h, l, a, b, n, n2, m, g, x0, x2, x3, x6, x7, x8, x9, x10, x11, x12, x13, x14, x15, x16, x17, x18, x19, x20, x21, x22, rfl, e1⟩ := h
  have hn := e1.z
  have hn2 := e1.z2
  have ta := e1.ta.tab
  have tb := e1.tb.tab
  obtain ⟨xa, ha1, ha2⟩ := ta.len
  refine ⟨.ref a, rfl, .ref b, rfl, a, b, n, n2, m, g, rfl, ta, tb, e1.G, e1.G', by omega, by omega, fun h => absurd h (by omega), fun _ _ => ⟨fun H1 s1 hno => ?_, fun H1 p F s1 en hp hl => ?_⟩⟩
  · have hv : ValOk K H1 .non n m n2 g := .inl ⟨rfl, hno⟩
    refine ⟨.ref a, rfl, a, xa, rfl, .inr (sameT s1 ha1), by show 2 ≤ sizeLine; decide, fun q hq => ⟨q, _, rfl, seqT_new, rfl, _, _, rfl, _, _, rfl, rfl, ?_⟩⟩
    rw [ha2]
    exact R4.mk rt ((e1.same s1).same (same_new hq)) (hv.same (same_new hq))
  · have hv : ValOk K H1 (.ref p) n m n2 g := .inr ⟨p, F, rfl, en, hp, hl⟩
    refine ⟨.ref a, rfl, a, xa, rfl, .inr (sameT s1 ha1), by show 2 ≤ sizeLine; decide, fun q hq => ⟨q, _, rfl, seqT_new, rfl, _, _, rfl, _, _, rfl, rfl, ?_⟩⟩
    rw [ha2]
    exact R4.mk rt ((e1.same s1).same (same_new hq)) (hv.same (same_new hq))
end
end K38

set_option Elab.async false
set_option linter.all false
set_option maxRecDepth 100000
set_option maxHeartbeats 4000000
/-! LD: the law's start; the law's promise. -/
namespace K38
open PySem PySem.Spec PyProof.Rows L2
theorem carry_ok {n : Nat} {m g : Nat → Nat → Nat} {n2 : Nat} {m2 g2 : Nat → Nat → Nat} {p p2 : Nat → Nat} (G : Grp n m) (G2 : Grp n2 m2) (h : Iso n m g p) (h2 : Iso n2 m2 g2 p2) (hp : p 0 = 0) (hp2 : p2 0 = 0) (ok : HasIso n m n2 m2 ∨ ¬ AlikeP n m n2 m2) :
    HasIso n g n2 g2 ∨ ¬ AlikeP n g n2 g2 := by
  have Gg := G.carry h hp
  have Gg2 := G2.carry h2 hp2
  rcases ok with ⟨e, f, hf⟩ | ok
  · subst e
    obtain ⟨p', hp', _⟩ := h.symm G
    exact .inl ⟨rfl, _, (hp'.comp hf).comp h2⟩
  · refine .inr fun z => ok ⟨(h.ods G Gg).trans (z.1.trans (h2.ods G2 Gg2).symm), ?_⟩
    exact (h.comm G).trans (z.2.trans (h2.comm G2).symm)
section
variable {P : Program} {w : World} {K : PySem.W.Frag} {mg : Str → Option Value} {base : Heap} {fa : Nat → Addr} {fd : Nat → FuncData} {C fRI : Addr} {tk : Tok}
section
variable {f : Addr} {cdv : Value} {A : Around} {outer : List Env} {s : Shared} {H0 : Hp} {E : XK}
theorem law2 (k : Kit P K mg fa fd C fRI tk) (hg : A.guards = some []) (hr : Room 32 (A.deeper (envOfC "law" (defScope sLaw) s.heap.objs.size f cdv))) : PSs (lawX P w K mg base f cdv A outer s H0 E) (lawT 2) (R2 K) := by
  refine imp_pss (pss_cons (ps_asg (pe_tup (pa_cons (pe_call k.named (hr.mono (by decide)) (by rfl) k.d28.g k.d28.F.kp k.d28.b .nil pass0 (pa_cons (pv 1) (pa_cons (pv 2) pa_nil))) (pa_cons (pe_call k.named (hr.mono (by decide)) (by rfl) k.d28.g k.d28.F.kp k.d28.b .nil pass0 (pa_cons (pv 1) (pa_cons (pv 3) pa_nil))) pa_nil)))
      (pg_tup (n := 2) rfl (pgs_cons (pg_name (i := 4) scLaw.nd rfl (Or.inr rfl)) (pgs_cons (pg_name (i := 5) scLaw.nd rfl (Or.inl rfl)) pgs_nil)))) (law3 k hg hr)) (fun D σ H h => ?_)
  obtain ⟨rt, h, l, k1, k2, q, x0, x4, x5, x6, x7, x8, x9, x10, x11, x12, x13, x14, x15, x16, x17, x18, x19, x20, x21, x22, rfl, hx, hk1, hk2, hq⟩ := h
  have z1 := kind_small _ hq.k1
  have z2 := kind_small _ hq.k2
  have G1 := kind_grp hq.k1
  have G2 := kind_grp hq.k2
  refine ⟨.ref h, rfl, .ref k1, rfl, h, l, k1, q.1.1, q.1.2.1, q.1.2.2.1, q.1.2.2.2, rfl, hk1, z1.1, z1.2.1, by omega, by omega, by omega, z1.2.2.2.2.2, hx, G1.lt, fun a g p H1 hx1 hB1 hZ1 hI1 hp1 => ?_⟩
  have hk2' : KindQ K H1 k2 q.2 := sqT_but hk2 hx hB1
  refine ⟨.ref h, rfl, .ref k2, rfl, h, l, k2, q.2.1, q.2.2.1, q.2.2.2.1, q.2.2.2.2, rfl, hk2', z2.1, z2.2.1, by omega, by omega, by omega, z2.2.2.2.2.2, hx1, G2.lt, fun b g2 p2 H2 hx2 hB2 hZ2 hI2 hp2 => ⟨by show 2 ≤ sizeLine; decide, fun t ht => ⟨t, _, rfl, seqT_new, rfl, _, _, rfl, _, _, rfl, rfl, ?_⟩⟩⟩
  have e1 : Env1 K H2 h l a b (q.1.1 * q.1.2.1) (q.2.1 * q.2.2.1) g g2 := ⟨hx2, tabZ_but hZ1 hx1 hB2, hZ2, G1.carry hI1 hp1, G2.carry hI2 hp2, z1.2.2.2.2.1, z2.2.2.2.2.1, carry_ok G1 G2 hI1 hI2 hp1 hp2 hq.ok⟩
  exact R3.mk rt (e1.same (same_new ht))
theorem law1 (k : Kit P K mg fa fd C fRI tk) (hg : A.guards = some []) (hr : Room 32 (A.deeper (envOfC "law" (defScope sLaw) s.heap.objs.size f cdv))) : PSs (lawX P w K mg base f cdv A outer s H0 E) (lawT 1) (R1 K) := by
  refine imp_pss (pss_cons (ps_asg (pe_call k.kinds (hr.mono (by decide)) (by rfl) k.d27.g k.d27.F.kp k.d27.b .nil pass0 (pa_cons (pv 1) pa_nil))
      (pg_tup (n := 2) rfl (pgs_cons (pg_name (i := 2) scLaw.nd rfl (Or.inl rfl)) (pgs_cons (pg_name (i := 3) scLaw.nd rfl (Or.inl rfl)) pgs_nil)))) (law2 k hg hr)) (fun D σ H h => ?_)
  obtain ⟨rt, h, l, x0, x2, x3, x4, x5, x6, x7, x8, x9, x10, x11, x12, x13, x14, x15, x16, x17, x18, x19, x20, x21, x22, rfl, hx⟩ := h
  refine ⟨.ref h, rfl, h, l, rfl, hx, fun v H1 q hx1 hB hpv hq => ?_⟩
  obtain ⟨p, k1, k2, rfl, h2, h3, h4⟩ := hpv
  exact ⟨p, _, rfl, h2, rfl, _, _, rfl, _, _, rfl, rfl, R2.mk rt hx1 h3 h4 (menu_ok hq)⟩
theorem law0 (k : Kit P K mg fa fd C fRI tk) (hg : A.guards = some []) (hr : Room 32 (A.deeper (envOfC "law" (defScope sLaw) s.heap.objs.size f cdv))) : PSs (lawX P w K mg base f cdv A outer s H0 E) (defBody sLaw) (R0 K) := by
  refine imp_pss (pss_cons (ps_set (i := 1) scLaw.nd rfl (Or.inl rfl) (pe_call k.heap (hr.mono (by decide)) (by rfl) k.d21.g k.d21.F.kp k.d21.b .nil pass0 (pa_cons (pv 0) (pa_cons pe_int pa_nil)))) (law1 k hg hr)) (fun D σ H h => ?_)
  obtain ⟨rt, a, ns, x1, x2, x3, x4, x5, x6, x7, x8, x9, x10, x11, x12, x13, x14, x15, x16, x17, x18, x19, x20, x21, x22, rfl, hS, hz⟩ := h
  exact ⟨.ref a, rfl, a, ns, rfl, hS, hz, fun h l H1 s1 _ _ hx => R1.mk (K := K) rt hx⟩
end
def spLaw (K : PySem.W.Frag) : Sp := fun vs H Q _ => ∃ (a : Addr) (ns : List Int), vs = [.ref a] ∧ SqL K H a (ns.map V.int) ∧ ns.length ≤ 1000 ∧ ∀ H', Q (.bl true) H'
theorem ok_law {f : Addr} {fdL : FuncData} (k : Kit P K mg fa fd C fRI tk) (F : Fun K "law" "law" sLaw f fdL) : FnG P w K mg base CX0 33 f fdL ["_law_script"] (spLaw K) := by
  refine fun_okG (k := 32) F scLaw (fun vs H Q E h => ?_) (fun cdv A outer s H vs Q E hg hr h => ?_)
  · obtain ⟨a, ns, rfl, _⟩ := h
    rfl
  · obtain ⟨a, ns, rfl, hS, hz, q⟩ := h
    exact ⟨R0 K, (law0 k hg hr).nox, R0.mk q hS hz⟩
end
end K38

set_option Elab.async false
set_option linter.all false
set_option maxRecDepth 100000
set_option maxHeartbeats 4000000
/-! LE: what the top has written, as the law's kit (printed by gen_fin.py). -/
namespace K38
open PySem PySem.Spec PyProof.Rows L2 PySem.HandSPX
theorem exm_self {K : PySem.W.Frag} {S : Addr} (h1 : PySem.W.subIn K (.ref S) (.type "BaseException") = some true) (h2 : PySem.W.isClsIn K S = true) (h3 : PySem.W.typeIn K (.ref S) = some (.type "type")) (h4 : PySem.W.subIn K (.ref S) (.ref S) = some true) :
    PySem.W.exmOne K (.ref S) (.ref S) = some true := by
  have e1 : (PySem.W.subIn K (.ref S) (.type "BaseException") == some true) = true := by rw [h1]; rfl
  have e2 : ((PySem.W.clsIn K S).isSome && PySem.W.typeIn K (.ref S) == some (.type "type")) = true := by
    have h2' : (PySem.W.clsIn K S).isSome = true := h2
    rw [h2', h3]; rfl
  show (if (PySem.W.subIn K (.ref S) (.type "BaseException") == some true) = true then (if ((PySem.W.clsIn K S).isSome && PySem.W.typeIn K (.ref S) == some (.type "type")) = true then PySem.W.subIn K (.ref S) (.ref S) else none) else none) = some true
  rw [if_pos e1, if_pos e2]
  exact h4
theorem all_mk {P : Program} {w : World} {K : PySem.W.Frag} {h : Heap} {mg : Str → Option Value} {fa : Addr} {f5 : Addr} {od5 an5 : Option Addr} {sl5 : Array (Option Value)} {oc5 kV5 dc5 pm5 cd5 ct5 : Value} {f6 : Addr} {od6 an6 : Option Addr} {sl6 : Array (Option Value)} {oc6 kV6 dc6 pm6 cd6 ct6 : Value} {f7 : Addr} {od7 an7 : Option Addr} {sl7 : Array (Option Value)} {oc7 kV7 dc7 pm7 cd7 ct7 : Value} {f8 : Addr} {od8 an8 : Option Addr} {sl8 : Array (Option Value)} {oc8 kV8 dc8 pm8 cd8 ct8 : Value} {f11 : Addr} {od11 an11 : Option Addr} {sl11 : Array (Option Value)} {oc11 kV11 dc11 pm11 cd11 ct11 : Value} {f12 : Addr} {od12 an12 : Option Addr} {sl12 : Array (Option Value)} {oc12 kV12 dc12 pm12 cd12 ct12 : Value} {f13 : Addr} {od13 an13 : Option Addr} {sl13 : Array (Option Value)} {oc13 kV13 dc13 pm13 cd13 ct13 : Value} {f14 : Addr} {od14 an14 : Option Addr} {sl14 : Array (Option Value)} {oc14 kV14 dc14 pm14 cd14 ct14 : Value} {f15 : Addr} {od15 an15 : Option Addr} {sl15 : Array (Option Value)} {oc15 kV15 dc15 pm15 cd15 ct15 : Value} {f16 : Addr} {od16 an16 : Option Addr} {sl16 : Array (Option Value)} {oc16 kV16 dc16 pm16 cd16 ct16 : Value} {f17 : Addr} {od17 an17 : Option Addr} {sl17 : Array (Option Value)} {oc17 kV17 dc17 pm17 cd17 ct17 : Value} {f18 : Addr} {od18 an18 : Option Addr} {sl18 : Array (Option Value)} {oc18 kV18 dc18 pm18 cd18 ct18 : Value} {f19 : Addr} {od19 an19 : Option Addr} {sl19 : Array (Option Value)} {oc19 kV19 dc19 pm19 cd19 ct19 : Value} {f21 : Addr} {od21 an21 : Option Addr} {sl21 : Array (Option Value)} {oc21 kV21 dc21 pm21 cd21 ct21 : Value} {f22 : Addr} {od22 an22 : Option Addr} {sl22 : Array (Option Value)} {oc22 kV22 dc22 pm22 cd22 ct22 : Value} {f23 : Addr} {od23 an23 : Option Addr} {sl23 : Array (Option Value)} {oc23 kV23 dc23 pm23 cd23 ct23 : Value} {f24 : Addr} {od24 an24 : Option Addr} {sl24 : Array (Option Value)} {oc24 kV24 dc24 pm24 cd24 ct24 : Value} {f25 : Addr} {od25 an25 : Option Addr} {sl25 : Array (Option Value)} {oc25 kV25 dc25 pm25 cd25 ct25 : Value} {f26 : Addr} {od26 an26 : Option Addr} {sl26 : Array (Option Value)} {oc26 kV26 dc26 pm26 cd26 ct26 : Value} {f27 : Addr} {od27 an27 : Option Addr} {sl27 : Array (Option Value)} {oc27 kV27 dc27 pm27 cd27 ct27 : Value} {f28 : Addr} {od28 an28 : Option Addr} {sl28 : Array (Option Value)} {oc28 kV28 dc28 pm28 cd28 ct28 : Value} {f29 : Addr} {od29 an29 : Option Addr} {sl29 : Array (Option Value)} {oc29 kV29 dc29 pm29 cd29 ct29 : Value} {f30 : Addr} {od30 an30 : Option Addr} {sl30 : Array (Option Value)} {oc30 kV30 dc30 pm30 cd30 ct30 : Value} {f31 : Addr} {od31 an31 : Option Addr} {sl31 : Array (Option Value)} {oc31 kV31 dc31 pm31 cd31 ct31 : Value} {f32 : Addr} {od32 an32 : Option Addr} {sl32 : Array (Option Value)} {oc32 kV32 dc32 pm32 cd32 ct32 : Value} {f33 : Addr} {od33 an33 : Option Addr} {sl33 : Array (Option Value)} {oc33 kV33 dc33 pm33 cd33 ct33 : Value} {f34 : Addr} {od34 an34 : Option Addr} {sl34 : Array (Option Value)} {oc34 kV34 dc34 pm34 cd34 ct34 : Value} {f35 : Addr} {od35 an35 : Option Addr} {sl35 : Array (Option Value)} {oc35 kV35 dc35 pm35 cd35 ct35 : Value} {f36 : Addr} {od36 an36 : Option Addr} {sl36 : Array (Option Value)} {oc36 kV36 dc36 pm36 cd36 ct36 : Value} {tk : Tok} {C fRI cda cc : Addr} {nm q : Str} {N : Addr} {bs bm : List Value} {sn : List Str} {sub : List Value} {ab : Bool} {col : Option Bool} {dd : Option Addr} {m0 m1 m2 m3 m5 : Option Value} {od : Option Addr} {doc pm : Value} {an : Option Addr} {ct : Value} {osl : Array (Option Value)} {ccl : Value} {cdd : Option Addr} {vs : Array Value} {ccs : Array (Option Value)} {file : Str} {tf : Tok} {cl : Value} {cld : Option Addr} {csl : Array (Option Value)} {oc : Value} (X : K.In h) (G : h.Ns mainGlobals mg) (hfa : mg "law" = some (.ref fa))
    (a5 : PySem.W.nsIn K mainGlobals "is_integer" = some (some (.ref f5))) (l5 : K.lookup f5 = some ⟨oc5, od5, .func (PySem.W.fnOf "is_integer" "is_integer" (defArgs sIsInteger) (defBody sIsInteger) (defScope sIsInteger) .none kV5 dc5 pm5 an5 cd5 ct5), sl5⟩) (c5 : PySem.W.codeIn K cd5 "is_integer" = true) (k5 : PySem.W.keepIn K (.ref f5) = true)
    (a6 : PySem.W.nsIn K mainGlobals "is_number" = some (some (.ref f6))) (l6 : K.lookup f6 = some ⟨oc6, od6, .func (PySem.W.fnOf "is_number" "is_number" (defArgs sIsNumber) (defBody sIsNumber) (defScope sIsNumber) .none kV6 dc6 pm6 an6 cd6 ct6), sl6⟩) (c6 : PySem.W.codeIn K cd6 "is_number" = true) (k6 : PySem.W.keepIn K (.ref f6) = true)
    (a7 : PySem.W.nsIn K mainGlobals "is_below" = some (some (.ref f7))) (l7 : K.lookup f7 = some ⟨oc7, od7, .func (PySem.W.fnOf "is_below" "is_below" (defArgs sIsBelow) (defBody sIsBelow) (defScope sIsBelow) .none kV7 dc7 pm7 an7 cd7 ct7), sl7⟩) (c7 : PySem.W.codeIn K cd7 "is_below" = true) (k7 : PySem.W.keepIn K (.ref f7) = true)
    (a8 : PySem.W.nsIn K mainGlobals "is_row" = some (some (.ref f8))) (l8 : K.lookup f8 = some ⟨oc8, od8, .func (PySem.W.fnOf "is_row" "is_row" (defArgs sIsRow) (defBody sIsRow) (defScope sIsRow) .none kV8 dc8 pm8 an8 cd8 ct8), sl8⟩) (c8 : PySem.W.codeIn K cd8 "is_row" = true) (k8 : PySem.W.keepIn K (.ref f8) = true)
    (a11 : PySem.W.nsIn K mainGlobals "need_share" = some (some (.ref f11))) (l11 : K.lookup f11 = some ⟨oc11, od11, .func (PySem.W.fnOf "need_share" "need_share" (defArgs sNeedShare) (defBody sNeedShare) (defScope sNeedShare) .none kV11 dc11 pm11 an11 cd11 ct11), sl11⟩) (c11 : PySem.W.codeIn K cd11 "need_share" = true) (k11 : PySem.W.keepIn K (.ref f11) = true)
    (a12 : PySem.W.nsIn K mainGlobals "inverse" = some (some (.ref f12))) (l12 : K.lookup f12 = some ⟨oc12, od12, .func (PySem.W.fnOf "inverse" "inverse" (defArgs sInverse) (defBody sInverse) (defScope sInverse) .none kV12 dc12 pm12 an12 cd12 ct12), sl12⟩) (c12 : PySem.W.codeIn K cd12 "inverse" = true) (k12 : PySem.W.keepIn K (.ref f12) = true)
    (a13 : PySem.W.nsIn K mainGlobals "order_of" = some (some (.ref f13))) (l13 : K.lookup f13 = some ⟨oc13, od13, .func (PySem.W.fnOf "order_of" "order_of" (defArgs sOrderOf) (defBody sOrderOf) (defScope sOrderOf) .none kV13 dc13 pm13 an13 cd13 ct13), sl13⟩) (c13 : PySem.W.codeIn K cd13 "order_of" = true) (k13 : PySem.W.keepIn K (.ref f13) = true)
    (a14 : PySem.W.nsIn K mainGlobals "opposite" = some (some (.ref f14))) (l14 : K.lookup f14 = some ⟨oc14, od14, .func (PySem.W.fnOf "opposite" "opposite" (defArgs sOpposite) (defBody sOpposite) (defScope sOpposite) .none kV14 dc14 pm14 an14 cd14 ct14), sl14⟩) (c14 : PySem.W.codeIn K cd14 "opposite" = true) (k14 : PySem.W.keepIn K (.ref f14) = true)
    (a15 : PySem.W.nsIn K mainGlobals "is_matching" = some (some (.ref f15))) (l15 : K.lookup f15 = some ⟨oc15, od15, .func (PySem.W.fnOf "is_matching" "is_matching" (defArgs sIsMatching) (defBody sIsMatching) (defScope sIsMatching) .none kV15 dc15 pm15 an15 cd15 ct15), sl15⟩) (c15 : PySem.W.codeIn K cd15 "is_matching" = true) (k15 : PySem.W.keepIn K (.ref f15) = true)
    (a16 : PySem.W.nsIn K mainGlobals "orders" = some (some (.ref f16))) (l16 : K.lookup f16 = some ⟨oc16, od16, .func (PySem.W.fnOf "orders" "orders" (defArgs sOrders) (defBody sOrders) (defScope sOrders) .none kV16 dc16 pm16 an16 cd16 ct16), sl16⟩) (c16 : PySem.W.codeIn K cd16 "orders" = true) (k16 : PySem.W.keepIn K (.ref f16) = true)
    (a17 : PySem.W.nsIn K mainGlobals "carried" = some (some (.ref f17))) (l17 : K.lookup f17 = some ⟨oc17, od17, .func (PySem.W.fnOf "carried" "carried" (defArgs sCarried) (defBody sCarried) (defScope sCarried) .none kV17 dc17 pm17 an17 cd17 ct17), sl17⟩) (c17 : PySem.W.codeIn K cd17 "carried" = true) (k17 : PySem.W.keepIn K (.ref f17) = true)
    (a18 : PySem.W.nsIn K mainGlobals "first_matching" = some (some (.ref f18))) (l18 : K.lookup f18 = some ⟨oc18, od18, .func (PySem.W.fnOf "first_matching" "first_matching" (defArgs sFirstMatching) (defBody sFirstMatching) (defScope sFirstMatching) .none kV18 dc18 pm18 an18 cd18 ct18), sl18⟩) (c18 : PySem.W.codeIn K cd18 "first_matching" = true) (k18 : PySem.W.keepIn K (.ref f18) = true)
    (a19 : PySem.W.nsIn K mainGlobals "matching" = some (some (.ref f19))) (l19 : K.lookup f19 = some ⟨oc19, od19, .func (PySem.W.fnOf "matching" "matching" (defArgs sMatching) (defBody sMatching) (defScope sMatching) .none kV19 dc19 pm19 an19 cd19 ct19), sl19⟩) (c19 : PySem.W.codeIn K cd19 "matching" = true) (k19 : PySem.W.keepIn K (.ref f19) = true)
    (a21 : PySem.W.nsIn K mainGlobals "_law_heap" = some (some (.ref f21))) (l21 : K.lookup f21 = some ⟨oc21, od21, .func (PySem.W.fnOf "_law_heap" "_law_heap" (defArgs sHeap) (defBody sHeap) (defScope sHeap) .none kV21 dc21 pm21 an21 cd21 ct21), sl21⟩) (c21 : PySem.W.codeIn K cd21 "_law_heap" = true) (k21 : PySem.W.keepIn K (.ref f21) = true)
    (a22 : PySem.W.nsIn K mainGlobals "_law_draw" = some (some (.ref f22))) (l22 : K.lookup f22 = some ⟨oc22, od22, .func (PySem.W.fnOf "_law_draw" "_law_draw" (defArgs sDraw) (defBody sDraw) (defScope sDraw) .none kV22 dc22 pm22 an22 cd22 ct22), sl22⟩) (c22 : PySem.W.codeIn K cd22 "_law_draw" = true) (k22 : PySem.W.keepIn K (.ref f22) = true)
    (a23 : PySem.W.nsIn K mainGlobals "_law_pick" = some (some (.ref f23))) (l23 : K.lookup f23 = some ⟨oc23, od23, .func (PySem.W.fnOf "_law_pick" "_law_pick" (defArgs sPick) (defBody sPick) (defScope sPick) .none kV23 dc23 pm23 an23 cd23 ct23), sl23⟩) (c23 : PySem.W.codeIn K cd23 "_law_pick" = true) (k23 : PySem.W.keepIn K (.ref f23) = true)
    (a24 : PySem.W.nsIn K mainGlobals "_law_order" = some (some (.ref f24))) (l24 : K.lookup f24 = some ⟨oc24, od24, .func (PySem.W.fnOf "_law_order" "_law_order" (defArgs sOrder) (defBody sOrder) (defScope sOrder) .none kV24 dc24 pm24 an24 cd24 ct24), sl24⟩) (c24 : PySem.W.codeIn K cd24 "_law_order" = true) (k24 : PySem.W.keepIn K (.ref f24) = true)
    (a25 : PySem.W.nsIn K mainGlobals "_law_table" = some (some (.ref f25))) (l25 : K.lookup f25 = some ⟨oc25, od25, .func (PySem.W.fnOf "_law_table" "_law_table" (defArgs sTable) (defBody sTable) (defScope sTable) .none kV25 dc25 pm25 an25 cd25 ct25), sl25⟩) (c25 : PySem.W.codeIn K cd25 "_law_table" = true) (k25 : PySem.W.keepIn K (.ref f25) = true)
    (a26 : PySem.W.nsIn K mainGlobals "_law_renamed" = some (some (.ref f26))) (l26 : K.lookup f26 = some ⟨oc26, od26, .func (PySem.W.fnOf "_law_renamed" "_law_renamed" (defArgs sRenamed) (defBody sRenamed) (defScope sRenamed) .none kV26 dc26 pm26 an26 cd26 ct26), sl26⟩) (c26 : PySem.W.codeIn K cd26 "_law_renamed" = true) (k26 : PySem.W.keepIn K (.ref f26) = true)
    (a27 : PySem.W.nsIn K mainGlobals "_law_kinds" = some (some (.ref f27))) (l27 : K.lookup f27 = some ⟨oc27, od27, .func (PySem.W.fnOf "_law_kinds" "_law_kinds" (defArgs sKinds) (defBody sKinds) (defScope sKinds) .none kV27 dc27 pm27 an27 cd27 ct27), sl27⟩) (c27 : PySem.W.codeIn K cd27 "_law_kinds" = true) (k27 : PySem.W.keepIn K (.ref f27) = true)
    (a28 : PySem.W.nsIn K mainGlobals "_law_named" = some (some (.ref f28))) (l28 : K.lookup f28 = some ⟨oc28, od28, .func (PySem.W.fnOf "_law_named" "_law_named" (defArgs sNamed) (defBody sNamed) (defScope sNamed) .none kV28 dc28 pm28 an28 cd28 ct28), sl28⟩) (c28 : PySem.W.codeIn K cd28 "_law_named" = true) (k28 : PySem.W.keepIn K (.ref f28) = true)
    (a29 : PySem.W.nsIn K mainGlobals "_law_orders" = some (some (.ref f29))) (l29 : K.lookup f29 = some ⟨oc29, od29, .func (PySem.W.fnOf "_law_orders" "_law_orders" (defArgs sLOrders) (defBody sLOrders) (defScope sLOrders) .none kV29 dc29 pm29 an29 cd29 ct29), sl29⟩) (c29 : PySem.W.codeIn K cd29 "_law_orders" = true) (k29 : PySem.W.keepIn K (.ref f29) = true)
    (a30 : PySem.W.nsIn K mainGlobals "_law_commutes" = some (some (.ref f30))) (l30 : K.lookup f30 = some ⟨oc30, od30, .func (PySem.W.fnOf "_law_commutes" "_law_commutes" (defArgs sCommutes) (defBody sCommutes) (defScope sCommutes) .none kV30 dc30 pm30 an30 cd30 ct30), sl30⟩) (c30 : PySem.W.codeIn K cd30 "_law_commutes" = true) (k30 : PySem.W.keepIn K (.ref f30) = true)
    (a31 : PySem.W.nsIn K mainGlobals "_law_leads" = some (some (.ref f31))) (l31 : K.lookup f31 = some ⟨oc31, od31, .func (PySem.W.fnOf "_law_leads" "_law_leads" (defArgs sLeads) (defBody sLeads) (defScope sLeads) .none kV31 dc31 pm31 an31 cd31 ct31), sl31⟩) (c31 : PySem.W.codeIn K cd31 "_law_leads" = true) (k31 : PySem.W.keepIn K (.ref f31) = true)
    (a32 : PySem.W.nsIn K mainGlobals "_law_first" = some (some (.ref f32))) (l32 : K.lookup f32 = some ⟨oc32, od32, .func (PySem.W.fnOf "_law_first" "_law_first" (defArgs sFirst) (defBody sFirst) (defScope sFirst) .none kV32 dc32 pm32 an32 cd32 ct32), sl32⟩) (c32 : PySem.W.codeIn K cd32 "_law_first" = true) (k32 : PySem.W.keepIn K (.ref f32) = true)
    (a33 : PySem.W.nsIn K mainGlobals "_law_words" = some (some (.ref f33))) (l33 : K.lookup f33 = some ⟨oc33, od33, .func (PySem.W.fnOf "_law_words" "_law_words" (defArgs sWords) (defBody sWords) (defScope sWords) .none kV33 dc33 pm33 an33 cd33 ct33), sl33⟩) (c33 : PySem.W.codeIn K cd33 "_law_words" = true) (k33 : PySem.W.keepIn K (.ref f33) = true)
    (a34 : PySem.W.nsIn K mainGlobals "_law_least" = some (some (.ref f34))) (l34 : K.lookup f34 = some ⟨oc34, od34, .func (PySem.W.fnOf "_law_least" "_law_least" (defArgs sLeast) (defBody sLeast) (defScope sLeast) .none kV34 dc34 pm34 an34 cd34 ct34), sl34⟩) (c34 : PySem.W.codeIn K cd34 "_law_least" = true) (k34 : PySem.W.keepIn K (.ref f34) = true)
    (a35 : PySem.W.nsIn K mainGlobals "_law_wide" = some (some (.ref f35))) (l35 : K.lookup f35 = some ⟨oc35, od35, .func (PySem.W.fnOf "_law_wide" "_law_wide" (defArgs sWide) (defBody sWide) (defScope sWide) .none kV35 dc35 pm35 an35 cd35 ct35), sl35⟩) (c35 : PySem.W.codeIn K cd35 "_law_wide" = true) (k35 : PySem.W.keepIn K (.ref f35) = true)
    (a36 : PySem.W.nsIn K mainGlobals "law" = some (some (.ref f36))) (l36 : K.lookup f36 = some ⟨oc36, od36, .func (PySem.W.fnOf "law" "law" (defArgs sLaw) (defBody sLaw) (defScope sLaw) .none kV36 dc36 pm36 an36 cd36 ct36), sl36⟩) (c36 : PySem.W.codeIn K cd36 "law" = true) (k36 : PySem.W.keepIn K (.ref f36) = true)
    (z0 : PySem.W.nsIn K mainGlobals "isinstance" = some none)
    (z1 : PySem.W.nsIn K mainGlobals "int" = some none)
    (z2 : PySem.W.nsIn K mainGlobals "bool" = some none)
    (z3 : PySem.W.nsIn K mainGlobals "tuple" = some none)
    (z4 : PySem.W.nsIn K mainGlobals "len" = some none)
    (z5 : PySem.W.nsIn K mainGlobals "all" = some none)
    (z6 : PySem.W.nsIn K mainGlobals "set" = some none)
    (z7 : PySem.W.nsIn K mainGlobals "enumerate" = some none)
    (z8 : PySem.W.nsIn K mainGlobals "range" = some none)
    (z9 : PySem.W.nsIn K mainGlobals "sorted" = some none)
    (z10 : PySem.W.nsIn K mainGlobals "list" = some none)
    (z11 : PySem.W.nsIn K mainGlobals "dict" = some none)
    (z12 : PySem.W.nsIn K mainGlobals "max" = some none)
    (z13 : PySem.W.nsIn K mainGlobals "abs" = some none)
    (z14 : PySem.W.nsIn K mainGlobals "repr" = some none)
    (z15 : PySem.W.nsIn K mainGlobals "str" = some none)
    (wW : PySem.W.nsIn K mainGlobals "WIDEST" = some (some (.int 24 tk)))
    (aC : PySem.W.nsIn K mainGlobals "Refused" = some (some (.ref C)))
    (zS : PySem.W.nsIn K mainGlobals "super" = some none)
    (xC : K.lookup C = some (excClassObj nm q C N bs bm true sn sub ab col dd m0 m1 m2 m3 m5 "ValueError.__new__"))
    (xB : refsVE bm = true)
    (sa : PySem.W.findIn K (.ref C) "__setattr__" = some (some (.builtin "object.__setattr__")))
    (ga : PySem.W.findIn K (.ref C) "__getattribute__" = some (some (.builtin "BaseException.__getattribute__")))
    (gg : PySem.W.findIn K (.ref C) "__getattr__" = some none)
    (nb : PySem.W.findIn K (.ref C) "word" = some none)
    (iC : PySem.W.findIn K (.ref C) "__init__" = some (some (.ref fRI)))
    (tF : PySem.W.typeIn K (.ref fRI) = some (.type "function"))
    (kC : PySem.W.keepIn K (.ref C) = true)
    (eC : PySem.W.subIn K (.ref C) (.type "BaseException") = some true)
    (vC : PySem.W.subIn K (.ref C) (.type "ValueError") = some true)
    (mC : PySem.W.mroIn K C (.ref C) = some true)
    (tC : PySem.W.typeIn K (.ref C) = some (.type "type"))
    (hC : PySem.W.hasDictIn K C = true)
    (jC : PySem.W.isClsIn K C = true)
    (sC : PySem.W.subIn K (.ref C) (.ref C) = some true)
    (th : PySem.W.nsIn K cStatics "thirdparty.any" = some none)
    (su : PySem.W.ks_superIn K C C "__init__" = some (some (.builtin "ValueError.__init__")))
    (lI : K.lookup fRI = some ⟨oc, od, .func (PySem.W.ksFn "__init__" "Refused.__init__" (defArgs sRefInit) (defBody sRefInit) (defScope sRefInit) .none .none doc pm an (.ref cda) ct cc), osl⟩)
    (cI : PySem.W.codeIn K (.ref cda) "Refused.__init__" = true)
    (lD : K.lookup cda = some ⟨ccl, cdd, .fields vs, ccs⟩)
    (vF : vs[2]? = some (.str file tf))
    (fF : ((P.main.file : Str) == file) = true)
    (lC : K.lookup cc = some ⟨cl, cld, .cell (some (.ref C)), csl⟩)
    (tp : (P.main.scope.names.lookup ("super" : Str)).isSome = false) :
    ∃ fd : FuncData, (∀ (s : Shared) (u : Value), BindsTo s fd ⟨[u], []⟩ [("_law_script", u)]) ∧ ∀ base : Heap, K.In base → base.Ns mainGlobals mg → FnG P w K mg base CX0 33 fa fd ["_law_script"] (spLaw K) := by
  have e := hfa.symm.trans (PySem.W.mg_of X G a36)
  cases e
  have F5 := fun_mk (st := sIsInteger) l5 c5 k5
  have D5 : Df K mg "is_integer" sIsInteger ["value"] f5 _ := ⟨F5, PySem.W.mg_of X G a5, F5.binds (ps := ["value"]) fun _ _ _ _ _ _ us hl => match us, hl with | [_], _ => rfl⟩
  have F6 := fun_mk (st := sIsNumber) l6 c6 k6
  have D6 : Df K mg "is_number" sIsNumber ["value"] f6 _ := ⟨F6, PySem.W.mg_of X G a6, F6.binds (ps := ["value"]) fun _ _ _ _ _ _ us hl => match us, hl with | [_], _ => rfl⟩
  have F7 := fun_mk (st := sIsBelow) l7 c7 k7
  have D7 : Df K mg "is_below" sIsBelow ["value", "bound"] f7 _ := ⟨F7, PySem.W.mg_of X G a7, F7.binds (ps := ["value", "bound"]) fun _ _ _ _ _ _ us hl => match us, hl with | [_, _], _ => rfl⟩
  have F8 := fun_mk (st := sIsRow) l8 c8 k8
  have D8 : Df K mg "is_row" sIsRow ["value", "size", "bound"] f8 _ := ⟨F8, PySem.W.mg_of X G a8, F8.binds (ps := ["value", "size", "bound"]) fun _ _ _ _ _ _ us hl => match us, hl with | [_, _, _], _ => rfl⟩
  have F11 := fun_mk (st := sNeedShare) l11 c11 k11
  have D11 : Df K mg "need_share" sNeedShare ["table", "value"] f11 _ := ⟨F11, PySem.W.mg_of X G a11, F11.binds (ps := ["table", "value"]) fun _ _ _ _ _ _ us hl => match us, hl with | [_, _], _ => rfl⟩
  have F12 := fun_mk (st := sInverse) l12 c12 k12
  have D12 : Df K mg "inverse" sInverse ["table", "one"] f12 _ := ⟨F12, PySem.W.mg_of X G a12, F12.binds (ps := ["table", "one"]) fun _ _ _ _ _ _ us hl => match us, hl with | [_, _], _ => rfl⟩
  have F13 := fun_mk (st := sOrderOf) l13 c13 k13
  have D13 : Df K mg "order_of" sOrderOf ["table", "one"] f13 _ := ⟨F13, PySem.W.mg_of X G a13, F13.binds (ps := ["table", "one"]) fun _ _ _ _ _ _ us hl => match us, hl with | [_, _], _ => rfl⟩
  have F14 := fun_mk (st := sOpposite) l14 c14 k14
  have D14 : Df K mg "opposite" sOpposite ["table"] f14 _ := ⟨F14, PySem.W.mg_of X G a14, F14.binds (ps := ["table"]) fun _ _ _ _ _ _ us hl => match us, hl with | [_], _ => rfl⟩
  have F15 := fun_mk (st := sIsMatching) l15 c15 k15
  have D15 : Df K mg "is_matching" sIsMatching ["table", "goal", "value"] f15 _ := ⟨F15, PySem.W.mg_of X G a15, F15.binds (ps := ["table", "goal", "value"]) fun _ _ _ _ _ _ us hl => match us, hl with | [_, _, _], _ => rfl⟩
  have F16 := fun_mk (st := sOrders) l16 c16 k16
  have D16 : Df K mg "orders" sOrders ["table"] f16 _ := ⟨F16, PySem.W.mg_of X G a16, F16.binds (ps := ["table"]) fun _ _ _ _ _ _ us hl => match us, hl with | [_], _ => rfl⟩
  have F17 := fun_mk (st := sCarried) l17 c17 k17
  have D17 : Df K mg "carried" sCarried ["table", "goal", "known"] f17 _ := ⟨F17, PySem.W.mg_of X G a17, F17.binds (ps := ["table", "goal", "known"]) fun _ _ _ _ _ _ us hl => match us, hl with | [_, _, _], _ => rfl⟩
  have F18 := fun_mk (st := sFirstMatching) l18 c18 k18
  have D18 : Df K mg "first_matching" sFirstMatching ["table", "goal", "known"] f18 _ := ⟨F18, PySem.W.mg_of X G a18, F18.binds (ps := ["table", "goal", "known"]) fun _ _ _ _ _ _ us hl => match us, hl with | [_, _, _], _ => rfl⟩
  have F19 := fun_mk (st := sMatching) l19 c19 k19
  have D19 : Df K mg "matching" sMatching ["table", "goal"] f19 _ := ⟨F19, PySem.W.mg_of X G a19, F19.binds (ps := ["table", "goal"]) fun _ _ _ _ _ _ us hl => match us, hl with | [_, _], _ => rfl⟩
  have F21 := fun_mk (st := sHeap) l21 c21 k21
  have D21 : Df K mg "_law_heap" sHeap ["_law_script", "_law_base"] f21 _ := ⟨F21, PySem.W.mg_of X G a21, F21.binds (ps := ["_law_script", "_law_base"]) fun _ _ _ _ _ _ us hl => match us, hl with | [_, _], _ => rfl⟩
  have F22 := fun_mk (st := sDraw) l22 c22 k22
  have D22 : Df K mg "_law_draw" sDraw ["_law_heap_here", "_law_many"] f22 _ := ⟨F22, PySem.W.mg_of X G a22, F22.binds (ps := ["_law_heap_here", "_law_many"]) fun _ _ _ _ _ _ us hl => match us, hl with | [_, _], _ => rfl⟩
  have F23 := fun_mk (st := sPick) l23 c23 k23
  have D23 : Df K mg "_law_pick" sPick ["_law_heap_here", "_law_some"] f23 _ := ⟨F23, PySem.W.mg_of X G a23, F23.binds (ps := ["_law_heap_here", "_law_some"]) fun _ _ _ _ _ _ us hl => match us, hl with | [_, _], _ => rfl⟩
  have F24 := fun_mk (st := sOrder) l24 c24 k24
  have D24 : Df K mg "_law_order" sOrder ["_law_heap_here", "_law_many"] f24 _ := ⟨F24, PySem.W.mg_of X G a24, F24.binds (ps := ["_law_heap_here", "_law_many"]) fun _ _ _ _ _ _ us hl => match us, hl with | [_, _], _ => rfl⟩
  have F25 := fun_mk (st := sTable) l25 c25 k25
  have D25 : Df K mg "_law_table" sTable ["_law_kind"] f25 _ := ⟨F25, PySem.W.mg_of X G a25, F25.binds (ps := ["_law_kind"]) fun _ _ _ _ _ _ us hl => match us, hl with | [_], _ => rfl⟩
  have F26 := fun_mk (st := sRenamed) l26 c26 k26
  have D26 : Df K mg "_law_renamed" sRenamed ["_law_table_here", "_law_names"] f26 _ := ⟨F26, PySem.W.mg_of X G a26, F26.binds (ps := ["_law_table_here", "_law_names"]) fun _ _ _ _ _ _ us hl => match us, hl with | [_, _], _ => rfl⟩
  have F27 := fun_mk (st := sKinds) l27 c27 k27
  have D27 : Df K mg "_law_kinds" sKinds ["_law_heap_here"] f27 _ := ⟨F27, PySem.W.mg_of X G a27, F27.binds (ps := ["_law_heap_here"]) fun _ _ _ _ _ _ us hl => match us, hl with | [_], _ => rfl⟩
  have F28 := fun_mk (st := sNamed) l28 c28 k28
  have D28 : Df K mg "_law_named" sNamed ["_law_heap_here", "_law_kind"] f28 _ := ⟨F28, PySem.W.mg_of X G a28, F28.binds (ps := ["_law_heap_here", "_law_kind"]) fun _ _ _ _ _ _ us hl => match us, hl with | [_, _], _ => rfl⟩
  have F29 := fun_mk (st := sLOrders) l29 c29 k29
  have D29 : Df K mg "_law_orders" sLOrders ["_law_table_here"] f29 _ := ⟨F29, PySem.W.mg_of X G a29, F29.binds (ps := ["_law_table_here"]) fun _ _ _ _ _ _ us hl => match us, hl with | [_], _ => rfl⟩
  have F30 := fun_mk (st := sCommutes) l30 c30 k30
  have D30 : Df K mg "_law_commutes" sCommutes ["_law_table_here"] f30 _ := ⟨F30, PySem.W.mg_of X G a30, F30.binds (ps := ["_law_table_here"]) fun _ _ _ _ _ _ us hl => match us, hl with | [_], _ => rfl⟩
  have F31 := fun_mk (st := sLeads) l31 c31 k31
  have D31 : Df K mg "_law_leads" sLeads ["_law_table_here", "_law_goal", "_law_value"] f31 _ := ⟨F31, PySem.W.mg_of X G a31, F31.binds (ps := ["_law_table_here", "_law_goal", "_law_value"]) fun _ _ _ _ _ _ us hl => match us, hl with | [_, _, _], _ => rfl⟩
  have F32 := fun_mk (st := sFirst) l32 c32 k32
  have D32 : Df K mg "_law_first" sFirst ["_law_table_here", "_law_goal"] f32 _ := ⟨F32, PySem.W.mg_of X G a32, F32.binds (ps := ["_law_table_here", "_law_goal"]) fun _ _ _ _ _ _ us hl => match us, hl with | [_, _], _ => rfl⟩
  have F33 := fun_mk (st := sWords) l33 c33 k33
  have D33 : Df K mg "_law_words" sWords ["_law_table_here"] f33 _ := ⟨F33, PySem.W.mg_of X G a33, F33.binds (ps := ["_law_table_here"]) fun _ _ _ _ _ _ us hl => match us, hl with | [_], _ => rfl⟩
  have F34 := fun_mk (st := sLeast) l34 c34 k34
  have D34 : Df K mg "_law_least" sLeast ["_law_table_here", "_law_goal"] f34 _ := ⟨F34, PySem.W.mg_of X G a34, F34.binds (ps := ["_law_table_here", "_law_goal"]) fun _ _ _ _ _ _ us hl => match us, hl with | [_, _], _ => rfl⟩
  have F35 := fun_mk (st := sWide) l35 c35 k35
  have D35 : Df K mg "_law_wide" sWide ["_law_table_here", "_law_goal"] f35 _ := ⟨F35, PySem.W.mg_of X G a35, F35.binds (ps := ["_law_table_here", "_law_goal"]) fun _ _ _ _ _ _ us hl => match us, hl with | [_, _], _ => rfl⟩
  have F36 := fun_mk (st := sLaw) l36 c36 k36
  have T : RefTxt P K mg C fRI :=
    { gC := PySem.W.mg_of X G aC, gS := PySem.W.mg_none_of X G zS, cls := ⟨nm, q, N, bs, bm, sn, sub, ab, col, dd, m0, m1, m2, m3, m5, xC, xB⟩, sa := sa, xf := ⟨ga, gg, eC, hC⟩, noN := nb, iC := iC, tC := tF, kC := kC, exC := eC, veC := vC, slf := mC, tyC := tC, te := exm_self eC jC tC sC,
      thr := th, sup := su, top := tp, fn := ⟨_, _, _, _, _, _, _, _, _, _, _, _, _, _, _, _, _, _, lI, cI, lD, vF, fF, lC⟩ }
  have B : Bn mg := { isinstance := PySem.W.mg_none_of X G z0, int := PySem.W.mg_none_of X G z1, bool := PySem.W.mg_none_of X G z2, tuple := PySem.W.mg_none_of X G z3, len := PySem.W.mg_none_of X G z4, all := PySem.W.mg_none_of X G z5, set := PySem.W.mg_none_of X G z6, enumerate := PySem.W.mg_none_of X G z7, range := PySem.W.mg_none_of X G z8, sorted := PySem.W.mg_none_of X G z9, list := PySem.W.mg_none_of X G z10, dict := PySem.W.mg_none_of X G z11, max := PySem.W.mg_none_of X G z12, abs := PySem.W.mg_none_of X G z13, repr := PySem.W.mg_none_of X G z14, str := PySem.W.mg_none_of X G z15 }
  have k : Kit P K mg (fun i => ([f5, f5, f5, f5, f5, f5, f6, f7, f8, f5, f5, f11, f12, f13, f14, f15, f16, f17, f18, f19, f5, f21, f22, f23, f24, f25, f26, f27, f28, f29, f30, f31, f32, f33, f34, f35, f5] : List Addr).getD i f5) (fun i => ([(PySem.W.fnOf "is_integer" "is_integer" (defArgs sIsInteger) (defBody sIsInteger) (defScope sIsInteger) .none kV5 dc5 pm5 an5 cd5 ct5), (PySem.W.fnOf "is_integer" "is_integer" (defArgs sIsInteger) (defBody sIsInteger) (defScope sIsInteger) .none kV5 dc5 pm5 an5 cd5 ct5), (PySem.W.fnOf "is_integer" "is_integer" (defArgs sIsInteger) (defBody sIsInteger) (defScope sIsInteger) .none kV5 dc5 pm5 an5 cd5 ct5), (PySem.W.fnOf "is_integer" "is_integer" (defArgs sIsInteger) (defBody sIsInteger) (defScope sIsInteger) .none kV5 dc5 pm5 an5 cd5 ct5), (PySem.W.fnOf "is_integer" "is_integer" (defArgs sIsInteger) (defBody sIsInteger) (defScope sIsInteger) .none kV5 dc5 pm5 an5 cd5 ct5), (PySem.W.fnOf "is_integer" "is_integer" (defArgs sIsInteger) (defBody sIsInteger) (defScope sIsInteger) .none kV5 dc5 pm5 an5 cd5 ct5), (PySem.W.fnOf "is_number" "is_number" (defArgs sIsNumber) (defBody sIsNumber) (defScope sIsNumber) .none kV6 dc6 pm6 an6 cd6 ct6), (PySem.W.fnOf "is_below" "is_below" (defArgs sIsBelow) (defBody sIsBelow) (defScope sIsBelow) .none kV7 dc7 pm7 an7 cd7 ct7), (PySem.W.fnOf "is_row" "is_row" (defArgs sIsRow) (defBody sIsRow) (defScope sIsRow) .none kV8 dc8 pm8 an8 cd8 ct8), (PySem.W.fnOf "is_integer" "is_integer" (defArgs sIsInteger) (defBody sIsInteger) (defScope sIsInteger) .none kV5 dc5 pm5 an5 cd5 ct5), (PySem.W.fnOf "is_integer" "is_integer" (defArgs sIsInteger) (defBody sIsInteger) (defScope sIsInteger) .none kV5 dc5 pm5 an5 cd5 ct5), (PySem.W.fnOf "need_share" "need_share" (defArgs sNeedShare) (defBody sNeedShare) (defScope sNeedShare) .none kV11 dc11 pm11 an11 cd11 ct11), (PySem.W.fnOf "inverse" "inverse" (defArgs sInverse) (defBody sInverse) (defScope sInverse) .none kV12 dc12 pm12 an12 cd12 ct12), (PySem.W.fnOf "order_of" "order_of" (defArgs sOrderOf) (defBody sOrderOf) (defScope sOrderOf) .none kV13 dc13 pm13 an13 cd13 ct13), (PySem.W.fnOf "opposite" "opposite" (defArgs sOpposite) (defBody sOpposite) (defScope sOpposite) .none kV14 dc14 pm14 an14 cd14 ct14), (PySem.W.fnOf "is_matching" "is_matching" (defArgs sIsMatching) (defBody sIsMatching) (defScope sIsMatching) .none kV15 dc15 pm15 an15 cd15 ct15), (PySem.W.fnOf "orders" "orders" (defArgs sOrders) (defBody sOrders) (defScope sOrders) .none kV16 dc16 pm16 an16 cd16 ct16), (PySem.W.fnOf "carried" "carried" (defArgs sCarried) (defBody sCarried) (defScope sCarried) .none kV17 dc17 pm17 an17 cd17 ct17), (PySem.W.fnOf "first_matching" "first_matching" (defArgs sFirstMatching) (defBody sFirstMatching) (defScope sFirstMatching) .none kV18 dc18 pm18 an18 cd18 ct18), (PySem.W.fnOf "matching" "matching" (defArgs sMatching) (defBody sMatching) (defScope sMatching) .none kV19 dc19 pm19 an19 cd19 ct19), (PySem.W.fnOf "is_integer" "is_integer" (defArgs sIsInteger) (defBody sIsInteger) (defScope sIsInteger) .none kV5 dc5 pm5 an5 cd5 ct5), (PySem.W.fnOf "_law_heap" "_law_heap" (defArgs sHeap) (defBody sHeap) (defScope sHeap) .none kV21 dc21 pm21 an21 cd21 ct21), (PySem.W.fnOf "_law_draw" "_law_draw" (defArgs sDraw) (defBody sDraw) (defScope sDraw) .none kV22 dc22 pm22 an22 cd22 ct22), (PySem.W.fnOf "_law_pick" "_law_pick" (defArgs sPick) (defBody sPick) (defScope sPick) .none kV23 dc23 pm23 an23 cd23 ct23), (PySem.W.fnOf "_law_order" "_law_order" (defArgs sOrder) (defBody sOrder) (defScope sOrder) .none kV24 dc24 pm24 an24 cd24 ct24), (PySem.W.fnOf "_law_table" "_law_table" (defArgs sTable) (defBody sTable) (defScope sTable) .none kV25 dc25 pm25 an25 cd25 ct25), (PySem.W.fnOf "_law_renamed" "_law_renamed" (defArgs sRenamed) (defBody sRenamed) (defScope sRenamed) .none kV26 dc26 pm26 an26 cd26 ct26), (PySem.W.fnOf "_law_kinds" "_law_kinds" (defArgs sKinds) (defBody sKinds) (defScope sKinds) .none kV27 dc27 pm27 an27 cd27 ct27), (PySem.W.fnOf "_law_named" "_law_named" (defArgs sNamed) (defBody sNamed) (defScope sNamed) .none kV28 dc28 pm28 an28 cd28 ct28), (PySem.W.fnOf "_law_orders" "_law_orders" (defArgs sLOrders) (defBody sLOrders) (defScope sLOrders) .none kV29 dc29 pm29 an29 cd29 ct29), (PySem.W.fnOf "_law_commutes" "_law_commutes" (defArgs sCommutes) (defBody sCommutes) (defScope sCommutes) .none kV30 dc30 pm30 an30 cd30 ct30), (PySem.W.fnOf "_law_leads" "_law_leads" (defArgs sLeads) (defBody sLeads) (defScope sLeads) .none kV31 dc31 pm31 an31 cd31 ct31), (PySem.W.fnOf "_law_first" "_law_first" (defArgs sFirst) (defBody sFirst) (defScope sFirst) .none kV32 dc32 pm32 an32 cd32 ct32), (PySem.W.fnOf "_law_words" "_law_words" (defArgs sWords) (defBody sWords) (defScope sWords) .none kV33 dc33 pm33 an33 cd33 ct33), (PySem.W.fnOf "_law_least" "_law_least" (defArgs sLeast) (defBody sLeast) (defScope sLeast) .none kV34 dc34 pm34 an34 cd34 ct34), (PySem.W.fnOf "_law_wide" "_law_wide" (defArgs sWide) (defBody sWide) (defScope sWide) .none kV35 dc35 pm35 an35 cd35 ct35), (PySem.W.fnOf "is_integer" "is_integer" (defArgs sIsInteger) (defBody sIsInteger) (defScope sIsInteger) .none kV5 dc5 pm5 an5 cd5 ct5)] : List FuncData).getD i (PySem.W.fnOf "is_integer" "is_integer" (defArgs sIsInteger) (defBody sIsInteger) (defScope sIsInteger) .none kV5 dc5 pm5 an5 cd5 ct5)) C fRI tk :=
    { B := B, T := T, hW := PySem.W.mg_of X G wW, d5 := D5, d6 := D6, d7 := D7, d8 := D8, d11 := D11, d12 := D12, d13 := D13, d14 := D14, d15 := D15, d16 := D16, d17 := D17, d18 := D18, d19 := D19, d21 := D21, d22 := D22, d23 := D23, d24 := D24, d25 := D25, d26 := D26, d27 := D27, d28 := D28, d29 := D29, d30 := D30, d31 := D31, d32 := D32, d33 := D33, d34 := D34, d35 := D35 }
  exact ⟨_, fun s u => .of_eq rfl, fun base _ _ => ok_law k F36⟩
end K38

open PySem PySem.W PyProof.Rows
set_option Elab.async false
set_option maxRecDepth 100000
set_option maxHeartbeats 0 in
theorem PySem.Challenge.cw_sharedunseen_k38_whole_matchings_of_tabl_holds : PySem.Challenge.rw_sharedunseen_k38_whole_matchings_of_tabl.Holds := by
  w_on; o_law; k_head; (case hw => w_witness2)
  k_fill
  refine K38.walk_ofG (l := PySem.Challenge.rw_sharedunseen_k38_whole_matchings_of_tabl) (n := 63) (k := 33) (x := "_law_script") (CX := fun _ => L2.CX0) (sp := fun w => K38.spLaw _) rfl (by decide) rfl ⟨rfl, by decide, by decide⟩ (fun w h Y => PySem.W.kIn_of Y) ?F (fun _ _ a ns hl _ hS => ⟨a, ns, rfl, hS, Nat.le_trans hl (by decide), fun _ => rfl⟩) (fun _ _ _ _ _ h => h)
  case F =>
    intro w mg fa h KX G hmg
    refine' K38.all_mk KX G hmg ?a5 ?l5 ?c5 ?k5 ?a6 ?l6 ?c6 ?k6 ?a7 ?l7 ?c7 ?k7 ?a8 ?l8 ?c8 ?k8 ?a11 ?l11 ?c11 ?k11 ?a12 ?l12 ?c12 ?k12 ?a13 ?l13 ?c13 ?k13 ?a14 ?l14 ?c14 ?k14 ?a15 ?l15 ?c15 ?k15 ?a16 ?l16 ?c16 ?k16 ?a17 ?l17 ?c17 ?k17 ?a18 ?l18 ?c18 ?k18 ?a19 ?l19 ?c19 ?k19 ?a21 ?l21 ?c21 ?k21 ?a22 ?l22 ?c22 ?k22 ?a23 ?l23 ?c23 ?k23 ?a24 ?l24 ?c24 ?k24 ?a25 ?l25 ?c25 ?k25 ?a26 ?l26 ?c26 ?k26 ?a27 ?l27 ?c27 ?k27 ?a28 ?l28 ?c28 ?k28 ?a29 ?l29 ?c29 ?k29 ?a30 ?l30 ?c30 ?k30 ?a31 ?l31 ?c31 ?k31 ?a32 ?l32 ?c32 ?k32 ?a33 ?l33 ?c33 ?k33 ?a34 ?l34 ?c34 ?k34 ?a35 ?l35 ?c35 ?k35 ?a36 ?l36 ?c36 ?k36 ?z0 ?z1 ?z2 ?z3 ?z4 ?z5 ?z6 ?z7 ?z8 ?z9 ?z10 ?z11 ?z12 ?z13 ?z14 ?z15 ?wW ?aC ?zS ?xC ?xB ?sa ?ga ?gg ?nb ?iC ?tF ?kC ?eC ?vC ?mC ?tC ?hC ?jC ?sC ?th ?su ?lI ?cI ?lD ?vF ?fF ?lC ?tp
    (case a5 => k_is)
    (case l5 => k_is)
    (case c5 => k_is)
    (case k5 => k_is)
    (case a6 => k_is)
    (case l6 => k_is)
    (case c6 => k_is)
    (case k6 => k_is)
    (case a7 => k_is)
    (case l7 => k_is)
    (case c7 => k_is)
    (case k7 => k_is)
    (case a8 => k_is)
    (case l8 => k_is)
    (case c8 => k_is)
    (case k8 => k_is)
    (case a11 => k_is)
    (case l11 => k_is)
    (case c11 => k_is)
    (case k11 => k_is)
    (case a12 => k_is)
    (case l12 => k_is)
    (case c12 => k_is)
    (case k12 => k_is)
    (case a13 => k_is)
    (case l13 => k_is)
    (case c13 => k_is)
    (case k13 => k_is)
    (case a14 => k_is)
    (case l14 => k_is)
    (case c14 => k_is)
    (case k14 => k_is)
    (case a15 => k_is)
    (case l15 => k_is)
    (case c15 => k_is)
    (case k15 => k_is)
    (case a16 => k_is)
    (case l16 => k_is)
    (case c16 => k_is)
    (case k16 => k_is)
    (case a17 => k_is)
    (case l17 => k_is)
    (case c17 => k_is)
    (case k17 => k_is)
    (case a18 => k_is)
    (case l18 => k_is)
    (case c18 => k_is)
    (case k18 => k_is)
    (case a19 => k_is)
    (case l19 => k_is)
    (case c19 => k_is)
    (case k19 => k_is)
    (case a21 => k_is)
    (case l21 => k_is)
    (case c21 => k_is)
    (case k21 => k_is)
    (case a22 => k_is)
    (case l22 => k_is)
    (case c22 => k_is)
    (case k22 => k_is)
    (case a23 => k_is)
    (case l23 => k_is)
    (case c23 => k_is)
    (case k23 => k_is)
    (case a24 => k_is)
    (case l24 => k_is)
    (case c24 => k_is)
    (case k24 => k_is)
    (case a25 => k_is)
    (case l25 => k_is)
    (case c25 => k_is)
    (case k25 => k_is)
    (case a26 => k_is)
    (case l26 => k_is)
    (case c26 => k_is)
    (case k26 => k_is)
    (case a27 => k_is)
    (case l27 => k_is)
    (case c27 => k_is)
    (case k27 => k_is)
    (case a28 => k_is)
    (case l28 => k_is)
    (case c28 => k_is)
    (case k28 => k_is)
    (case a29 => k_is)
    (case l29 => k_is)
    (case c29 => k_is)
    (case k29 => k_is)
    (case a30 => k_is)
    (case l30 => k_is)
    (case c30 => k_is)
    (case k30 => k_is)
    (case a31 => k_is)
    (case l31 => k_is)
    (case c31 => k_is)
    (case k31 => k_is)
    (case a32 => k_is)
    (case l32 => k_is)
    (case c32 => k_is)
    (case k32 => k_is)
    (case a33 => k_is)
    (case l33 => k_is)
    (case c33 => k_is)
    (case k33 => k_is)
    (case a34 => k_is)
    (case l34 => k_is)
    (case c34 => k_is)
    (case k34 => k_is)
    (case a35 => k_is)
    (case l35 => k_is)
    (case c35 => k_is)
    (case k35 => k_is)
    (case a36 => k_is)
    (case l36 => k_is)
    (case c36 => k_is)
    (case k36 => k_is)
    (case z0 => k_is)
    (case z1 => k_is)
    (case z2 => k_is)
    (case z3 => k_is)
    (case z4 => k_is)
    (case z5 => k_is)
    (case z6 => k_is)
    (case z7 => k_is)
    (case z8 => k_is)
    (case z9 => k_is)
    (case z10 => k_is)
    (case z11 => k_is)
    (case z12 => k_is)
    (case z13 => k_is)
    (case z14 => k_is)
    (case z15 => k_is)
    (case wW => k_is)
    (case aC => k_is)
    (case zS => k_is)
    (case xC => k_is)
    (case xB => first | decide +kernel | rfl)
    (case sa => k_is)
    (case ga => k_is)
    (case gg => k_is)
    (case nb => k_is)
    (case iC => k_is)
    (case tF => k_is)
    (case kC => k_is)
    (case eC => k_is)
    (case vC => k_is)
    (case mC => first | k_is | rfl | decide +kernel)
    (case tC => k_is)
    (case hC => k_is)
    (case jC => k_is)
    (case sC => first | rfl | k_is)
    (case th => first | k_is | rfl | decide +kernel)
    (case su => first | k_is | ks_is)
    (case lI => k_is)
    (case cI => k_is)
    (case lD => k_is)
    (case vF => first | rfl | decide +kernel)
    (case fF => first | rfl | decide +kernel)
    (case lC => k_is)
    (case tp => first | rfl | decide +kernel)
