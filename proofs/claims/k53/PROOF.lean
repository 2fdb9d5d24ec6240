import PyProof.Rows.All
import Wide.All
import OpenK.AllK
import Wide.FinOn
import HandS.ForMost
import HandS.SortInts
import HandS.TupMul
import HandS.Strs
import HandS.RaiseMore
import HandS.Conv
import HandS.SetFor
import KE.KRevSl
import HandS.ExcValue
import KE.KDictList
import HandS.ListItems
import HandS.Exc
import HandS.ExcCtx
import HandS.ExcOwn
import HandS.ExcInit
import HandS.ExcField
import HandS.Defaults
import HandS.HeadHook2
import KE.KSuper
import KE.KExcSuper
import HandS.TryMany
import HandS.TryOnly
import HandS.Hot
import HandS.HotCalls
import PySem.PyData
import PyProof.P3Statements
import PyProof.Lay0
import PyProof.ReprReads
import PyProof.StrBlockL
import HandS.Text
import HandS.WordsExc
import HandS.IsInst
import HandS.TupAny
import HandS.Zip
import HandS.Style
import HandS.Deep
import HandS.HeadEnd
import HandS.Walk
import HandS.Wide
import HandS.More
import HandS.Steps
import HandS.NoneIn
import PyProof.FitsStr
import PyProof.StrOps2
import KE.GoesEnum
import HandS.Words
import PyProof.ExcBaseAll.ValueError
import PySem.Challenge.RW_fixwright_k53_networks_that_put_rows_in
import HandS.Head0
import HandS.Head1
import HandS.Head2
set_option Elab.async false
set_option linter.all false
set_option maxRecDepth 100000
set_option maxHeartbeats 2000000
/-! Rf, part Pr: rules that the hand layer lacks. -/
namespace Rf
open PySem PySem.Spec PyProof.Rows L2
theorem ints_flat (ys : List Int) : (ys.map V.int).all flatV = true := by
  rw [List.all_map]
  exact List.all_eq_true.mpr fun _ _ => rfl
section
open Srt SrtO
variable {prog : Program} {w : World} {A : Around} {E : Value → Shared → Prop} {s : Shared}
/-- a tuple's items, gathered -/
theorem gather_tup {b : Addr} {o : Obj} {vs : List Value} {n : Nat} {Q : List Value → Shared → Prop} (ho : s.heap.get? b = some o) (hc : o.cls = .type "tuple") (hd : o.data = .seq vs.toArray n) (hz : vs.length ≤ sizeLine)
    (h : Q vs { s with heap := (s.heap.push (seqObj "list" #[] 0)).update s.heap.objs.size (Obj.mapSeq (· ++ vs.toArray)) }) : wpAny (model prog w) A (collect (.ref b)) Q E s := by
  have ho2 : (s.heap.push (seqObj "list" #[] 0)).get? b = some o := Heap.get?_push_of_some _ ho
  have hn : (s.heap.push (seqObj "list" #[] 0)).get? s.heap.objs.size = some (seqObj "list" #[] 0) := Heap.get?_push_size _ rfl
  unfold collect
  refine wpAny_bind (wpAny_runValue (codeAny_builtin entry_proto_collect' ?_))
  show wpAny _ _ (do again (.builtin "list.__iadd__" ⟨[← newList [], .ref b], []⟩)) _ _ s
  refine wpAny_bind (wpAny_newList (wpAny_pure ⟨Code.quiet_builtin _ (by decide +kernel), codeAny_builtin entry_list_iadd' ?_⟩))
  show wpAny _ _ (Builtin.List.listExtendWith (.ref s.heap.objs.size) (.ref b) (.ref s.heap.objs.size)) _ _ _
  unfold Builtin.List.listExtendWith
  refine wpAny_bind (wpAny_typeOf (T := "tuple") ⟨o, ho2, hc⟩ ?_)
  rw [if_pos (show (Builtin.List.listSameRef (.ref s.heap.objs.size) (.ref b) || (Value.type "tuple" == Value.type "list") || (Value.type "tuple" == Value.type "tuple")) = true by
    rw [show (Value.type "tuple" == Value.type "tuple") = true from rfl, Bool.or_true])]
  refine wpAny_bind (listItems_at ho2 hd (wpAny_bind (listItems_at (xs := #[]) (n := 0) hn rfl ?_)))
  rw [if_neg (by simp)]
  have hfit : ((#[] : Array Value) ++ vs.toArray).size ≤ sizeLine + 1 := by simp only [Array.size_append, List.size_toArray, List.length_nil]; omega
  refine wpAny_bind (listUpdate_at (xs := #[]) (n := 0) hn rfl (wpAny_pure ?_) (Nat.zero_le _) hfit)
  show wpAny (model prog w) A (do
      let o ← load s.heap.objs.size
      match o.data with
      | .seq xs _ => pure xs.toList
      | _ => unsupported "internal:collect") Q E _
  refine wpAny_bind (wpAny_load (get?_update_seq hn _) ?_)
  show wpAny _ _ (pure ((#[] : Array Value) ++ vs.toArray).toList) Q E _
  rw [show ((#[] : Array Value) ++ vs.toArray).toList = vs by simp]
  exact wpAny_pure h
/-- sorted(t) of a tuple -/
theorem sorted_tup {b : Addr} {o : Obj} {vs : List Value} {n : Nat} {ltv : Value → Value → Bool} {Q : Value → Shared → Prop} (O : Swo ltv) (ho : s.heap.get? b = some o) (hc : o.cls = .type "tuple") (hd : o.data = .seq vs.toArray n) (hz : vs.length ≤ sizeLine)
    (hS : 2 ≤ vs.length → ∀ (h₁ : Heap) (a : Addr), h₁.get? a = some (seqObj "list" vs.toArray 0) → SortableO prog w A.in1.in1 { s with heap := h₁ } a vs ltv)
    (h : ∀ out : List Value, Srtd ltv out → Stb ltv out vs → Q (.ref (s.heap.objs.size + 1)) { s with heap := sortedAll s.heap vs out.toArray }) : wpAny (model prog w) A (call (.builtin "sorted") [.ref b]) Q E s := by
  refine Calls.call_function_entry kind_sorted plain_sorted entry_sorted (args_sorted1 _) ?_
  unfold Builtin.«sorted»
  refine wpAny_bind (m := checkCount "sorted" 1 1 _) (wpAny_pure (wpAny_bind (gather_tup ho hc hd hz (wpAny_bind (wpAny_newList ?_ hz)))))
  generalize hq : (s.heap.push (seqObj "list" #[] 0)).update s.heap.objs.size (Obj.mapSeq (· ++ vs.toArray)) = q
  have qs : q.objs.size = s.heap.objs.size + 1 := by rw [← hq, Heap.size_update, size_push']
  have qo : (q.push (seqObj "list" vs.toArray 0)).get? (s.heap.objs.size + 1) = some (seqObj "list" vs.toArray 0) := by rw [← qs]; exact Heap.get?_push_size _ rfl
  show wpAny _ _ _ _ _ { s with heap := q.push (seqObj "list" vs.toArray 0) }
  rw [qs]
  refine wpAny_bind (wpAny_holding (wpAny_call_entry slot_list_sort ⟨_, qo, rfl⟩ entry_list_sort (list_sort_ord O qo hz (fun h2 => hS h2 _ _ qo) fun out a1 a2 => ⟨_, rfl, ?_⟩) (args_list_sort _)))
  refine wpAny_pure ⟨_, rfl, ?_⟩
  have := h out a1 a2
  unfold sortedAll at this
  rw [hq] at this
  exact this
end
section
variable {X : Cx}
/-- sorted(t), t a tuple of numbers -/
theorem cr_sortedTup : CallR X (.builtin "sorted") (fun vs H Q => ∃ (a : Addr) (ns : List Int), vs = [V.ref a] ∧ SqT X.K H a (ns.map V.int) ∧ ∀ (ns' : List Int) (p : Addr), ns'.Perm ns → ns'.Pairwise (· ≤ ·) → H p = none → Q (.ref p) (upd H p (.lst (ns'.map V.int)))) := by
  intro pins s σ H vs us Q I r ⟨a, ns, e, hs, q⟩
  subst e
  obtain ⟨its, rv, ⟨o, ho, hc, n, hd⟩, hz⟩ := I.tuple hs
  rw [Vals.ref1 r]
  have hi := rv.ints
  refine sorted_tup SrtO.swo_int ho hc hd (by rw [← rv.length]; exact hz) (fun h2 h₁ a' _ => SrtO.ints_sortable hi h2) fun out h1 h2 => ?_
  obtain ⟨k1, k2, k3⟩ := SrtO.ints_out hi h1 h2
  obtain ⟨ep, at'⟩ := PyProof.Rows.sortedAll_at s.heap its out.toArray
  have len : ((out.map SrtO.iv).map V.int).length ≤ sizeLine := by
    rw [List.length_map, k2.length_eq]
    rwa [List.length_map] at hz
  exact ⟨.ref _, upd H (s.heap.objs.size + 1) (.lst ((out.map SrtO.iv).map V.int)), I.laid (t' := s.toks) (fun _ _ => PyProof.Rows.sortedAll_old) (Nat.le_succ _) ⟨len, out, ep, vals_of_ints k1, at'⟩, rfl, q _ _ k2 k3 (I.hok.fresh (Nat.le_succ _))⟩
/-- repr of None, of truths, of texts -/
theorem cr_reprB : CallR X (.builtin "repr") (fun vs H Q => ∃ b, vs = [.bl b] ∧ Q (.str (if b then "True" else "False")) H) := by
  intro pins s σ H vs us Q I r ⟨b, e, q⟩
  subst e
  obtain ⟨u, rfl, ru⟩ := vals1 r
  cases ru
  exact PySem.P.repr_of_bool ⟨.str _, H, I.tok _, ⟨_, rfl⟩, q⟩
theorem cr_reprN : CallR X (.builtin "repr") (fun vs H Q => vs = [.non] ∧ Q (.str "None") H) := by
  intro pins s σ H vs us Q I r ⟨e, q⟩
  subst e
  obtain ⟨u, rfl, ru⟩ := vals1 r
  cases ru
  exact PySem.P.repr_of_none ⟨.str _, H, I.tok _, ⟨_, rfl⟩, q⟩
theorem cr_reprS : CallR X (.builtin "repr") (fun vs H Q => ∃ x, vs = [.str x] ∧ (reprText x).length ≤ sizeLine ∧ Q (.str (reprText x)) H) := by
  intro pins s σ H vs us Q I r ⟨x, e, hz, q⟩
  subst e
  obtain ⟨u, rfl, t, rfl⟩ := vals1 r
  exact PySem.P.repr_of_str ⟨.str _, H, I.tok _, ⟨_, rfl⟩, q⟩ hz
/-- the first place of a number in a tuple of numbers -/
theorem mt_tupIx : MtR X "tuple.index" (fun x xs H Q => ∃ p, ∃ ys : List Int, ∃ z j, x = .ref p ∧ xs = [.int z] ∧ SqT X.K H p (ys.map V.int) ∧ ys[j]? = some z ∧ (∀ m, m < j → ys[m]? ≠ some z) ∧ Q (.int (j : Nat)) H) := by
  intro pins s σ H x xs v us Q I rx rs ⟨p, ys, z, j, e1, e2, hq, hy, hno, q⟩
  subst e1 e2
  cases rx
  obtain ⟨u, rfl, t, rfl⟩ := vals1 rs
  obtain ⟨its, r, pl, hz⟩ := I.tuple hq
  obtain ⟨⟨cls, dd, dt, sl⟩, ho, hc, n, hd⟩ := pl
  simp only at hc hd
  subst hc hd
  have hl : its.toArray.size = ys.length := by rw [List.size_toArray, ← r.length, List.length_map]
  have hj : j < its.toArray.size := by rw [hl]; exact (List.getElem?_eq_some_iff.mp hy).1
  have gt : ∀ (m : Nat) (hm : m < its.toArray.size), ∃ y t', ys[m]? = some y ∧ its.toArray[m] = Value.int y t' := fun m hm => by
    have hm' : m < ys.length := by rw [← hl]; exact hm
    obtain ⟨w, hw, t', hw'⟩ := r.get (i := m) (x := .int ys[m]) (by simp [hm'])
    have e := (List.getElem?_eq_some_iff.mp hw).2
    exact ⟨ys[m], t', List.getElem?_eq_getElem hm', by rw [← hw', ← e]; simp⟩
  have first : eqU (.int z) its.toArray[j] = true := by
    obtain ⟨y, t', h1, h2⟩ := gt j hj
    rw [hy] at h1
    cases h1
    rw [h2]
    show eqV (.int z) (.int z) = true
    simp [eqV]
  have before : ∀ (m : Nat) (hm : m < its.toArray.size), m < j → eqU (.int z) its.toArray[m] = false := fun m hm hmj => by
    obtain ⟨y, t', h1, h2⟩ := gt m hm
    rw [h2]
    show eqV (.int y) (.int z) = false
    have : y ≠ z := fun e => hno m hmj (e ▸ h1)
    simp [eqV, this]
  exact call_meets PySem.F.slot_tuple_index ⟨_, ho, rfl⟩ PySem.F.entry_tuple_index (PySem.F.args_tuple_index_2 _ _) (TI.tuple_indexAt p its.toArray n dd sl (.int z t) (eqU (.int z)) j hj first before)
    ⟨ho, fun w hw => mem_eqAt (x := .int z) ⟨t, rfl⟩ rfl r (ints_flat ys) w (by simpa using hw), ⟨.int (j : Nat), H, I.tok _, ⟨_, rfl⟩, q⟩⟩
end
/-! ### a tuple once -/
theorem tup_once (l : Addr) (items : Array Value) (n : Nat) (sl : Array (Option Value)) (dd : Option Addr) (u : Tok) :
    Meets (Builtin.«tuple.__mul__» ⟨[.ref l, .int 1 u], []⟩) (fun _ R s => s.heap.get? l = some { cls := .type "tuple", dict := dd, data := .seq items n, slots := sl } ∧ R (.ok (.ret (Value.ref l))) s) :=
  .of_wp fun prog w A R s h => by
    obtain ⟨hp, g, d, tk, os⟩ := s
    obtain ⟨hl, h⟩ := h
    have f1 := AutoSeq1.idx_int
    wp_walk using wpAny_loadPart' hl
    repeat (first
      | (refine wpAny_ite_false (decide_eq_false (by decide)) ?_; wp_walk using wpAny_loadPart' hl)
      | (refine wpAny_ite_true (decide_eq_true (by simp)) ?_; wp_walk using wpAny_loadPart' hl))
    exact ⟨_, rfl, h⟩
/-- a tuple no times -/
theorem tup_none (l : Addr) (items : Array Value) (n : Nat) (sl : Array (Option Value)) (dd : Option Addr) (x : Int) (u : Tok) (c0 : (decide (x < -(2 ^ 63)) || decide (x ≥ 2 ^ 63)) = false) (c1 : (items.isEmpty || x == 1) = false) (c2 : (decide (x ≤ 0) || items.isEmpty) = true) :
    Meets (Builtin.«tuple.__mul__» ⟨[.ref l, .int x u], []⟩) (fun _ R s => s.heap.get? l = some { cls := .type "tuple", dict := dd, data := .seq items n, slots := sl } ∧
      R (.ok (.ret (Value.ref s.heap.objs.size))) { s with heap := s.heap.push { cls := Value.type "tuple", data := Data.seq #[] }, toks := s.toks }) :=
  .of_wp fun prog w A R s h => by
    obtain ⟨hp, g, d, tk, os⟩ := s
    obtain ⟨hl, h⟩ := h
    have f1 := AutoSeq1.idx_int
    wp_walk using wpAny_loadPart' hl
    repeat (first
      | (refine wpAny_ite_false (decide_eq_false (by rw [c0]; exact Bool.false_ne_true)) ?_; wp_walk using wpAny_loadPart' hl)
      | (refine wpAny_ite_false (decide_eq_false (by rw [c1]; exact Bool.false_ne_true)) ?_; wp_walk using wpAny_loadPart' hl)
      | (refine wpAny_ite_true (decide_eq_true c2) ?_; wp_walk using wpAny_loadPart' hl)
      | (refine wpAny_ite_false (decide_eq_false (by simp)) ?_; wp_walk using wpAny_loadPart' hl))
    exact ⟨_, rfl, h⟩
section
variable {X : Cx}
theorem op_none : OpR X (binaryOp .Mult) (fun x y H Q => ∃ l k xs, x = .ref l ∧ y = .int k ∧ SqT X.K H l xs ∧ xs ≠ [] ∧ k ≤ 0 ∧ -1000 ≤ k ∧ ∀ p, H p = none → Q (.ref p) (upd H p (.tup []))) := by
  intro pins s σ H x y v u Q I rx ry ⟨l, k, xs, e1, e2, hT, hne, h1, h2, q⟩
  subst e1 e2
  cases rx
  obtain ⟨t, rfl⟩ := ry
  obtain ⟨its, r, ⟨⟨cls, dd, data, sl⟩, ho, hc, n, hd⟩, hs⟩ := I.tuple hT
  simp only at hc hd
  subst hc hd
  have len : its.length = xs.length := r.length.symm
  have ne : its ≠ [] := fun e => hne (List.eq_nil_of_length_eq_zero (by rw [← len, e]; rfl))
  have emp : its.toArray.isEmpty = false := by
    cases its with
    | nil => exact absurd rfl ne
    | cons a b => rfl
  refine wpAny_binaryOp_repeat_ref (T := "tuple") (U := "int") (by decide) ⟨_, ho, rfl⟩ (fun s' => typeIs_int s' k t) noFill_tuple_mul F.fills_int_mul F.slot_int_rmul repeat_tuple F.slot_int_index.lookup
    (call_meets F.slot_int_rmul (typeIs_int s k t) F.entry_int_rmul (F.args_int_rmul_2 _ _) (int_rmul_tuple k t l its.toArray n dd sl)
      ⟨ho, rfl, ⟨_, ho, rfl⟩, call_meets F.slot_tuple_mul ⟨_, ho, rfl⟩ F.entry_tuple_mul (F.args_tuple_mul_2 _ _) (tup_none l its.toArray n sl dd k t (by simp; omega) (by rw [emp]; simp; omega) (by simp [h1])) ⟨ho, ?_⟩⟩)
  have nf := I.hok.fresh (Nat.le_refl s.heap.objs.size)
  have I1 := I.laid (t' := s.toks) (a := s.heap.objs.size) (o := .tup []) (h' := s.heap.push { cls := Value.type "tuple", data := Data.seq #[] }) (fun _ _ e => Heap.get?_push_of_some _ e) (Nat.le_refl _) ⟨Nat.zero_le _, [], .nil, ⟨_, Heap.get?_push_size _ rfl, rfl, 0, rfl⟩⟩
  exact ⟨.ref _, _, I1, rfl, q _ nf⟩
theorem op_once : OpR X (binaryOp .Mult) (fun x y H Q => ∃ l xs, x = .ref l ∧ y = .int 1 ∧ SqT X.K H l xs ∧ Q (.ref l) H) := by
  intro pins s σ H x y v u Q I rx ry ⟨l, xs, e1, e2, hT, q⟩
  subst e1 e2
  cases rx
  obtain ⟨t, rfl⟩ := ry
  obtain ⟨its, r, ⟨⟨cls, dd, data, sl⟩, ho, hc, n, hd⟩, hs⟩ := I.tuple hT
  simp only at hc hd
  subst hc hd
  refine wpAny_binaryOp_repeat_ref (T := "tuple") (U := "int") (by decide) ⟨_, ho, rfl⟩ (fun s' => typeIs_int s' 1 t) noFill_tuple_mul F.fills_int_mul F.slot_int_rmul repeat_tuple F.slot_int_index.lookup
    (call_meets F.slot_int_rmul (typeIs_int s 1 t) F.entry_int_rmul (F.args_int_rmul_2 _ _) (int_rmul_tuple 1 t l its.toArray n dd sl)
      ⟨ho, rfl, ⟨_, ho, rfl⟩, call_meets F.slot_tuple_mul ⟨_, ho, rfl⟩ F.entry_tuple_mul (F.args_tuple_mul_2 _ _) (tup_once l its.toArray n sl dd t) ⟨ho, ?_⟩⟩)
  exact ⟨.ref l, H, I, rfl, q⟩
end
end Rf

set_option Elab.async false
set_option maxRecDepth 100000
set_option maxHeartbeats 4000000
/-! Rf, part Ps: sorted(set(xs)) of a list of numbers. -/
namespace Rf
open PySem PySem.Spec PyProof.Rows L2 PySem.Calls
section
variable {P : Program} {w : World} {A : Around} {E : Value → Shared → Prop}
/-- a set just made -/
abbrev newS (w : World) : Obj := { cls := .type "set", dict := none, data := .set #[] 0 (.fresh 0 0 (!w.params.followText "set-order")) }
/-- the set at S, just made, takes a list's numbers -/
theorem init_lst {S l : Addr} {q : Shared} {items : Array Value} (is : List Int) (hA : A.handled = none) (gS : q.heap.get? S = some (newS w)) (gl : q.heap.IsList l items) (hi : IntsAre items.toList is) (few : is.length + 1 < scanBound) {R : Result → Shared → Prop}
    (hR : ∀ (H : Heap) (tk n : Nat), SetR w H S (fun j => decide (j ∈ is)) n → n ≤ is.length → (∀ b o, q.heap.get? b = some o → b ≠ S → H.get? b = some o) → R (.ok (.ret .none)) { q with heap := H, toks := tk }) :
    codeAny (model P w) A (.call (.builtin "set.__init__") ⟨[.ref S, .ref l], []⟩) R q := by
  have tS : Shared.TypeIs q (.ref S) "set" := ⟨_, gS, rfl⟩
  refine codeAny_call_builtin F.called_set.init.plain F.entry_set_init (check_set_init_1 tS ?_)
  have size : items.size = is.length := by
    have z := hi.length
    rwa [Array.length_toList] at z
  obtain ⟨hp, g, d, tk, os⟩ := q
  have gl0 := gl
  obtain ⟨⟨ocls, odict, odata, oslots⟩, ho, hc, k, hd⟩ := gl
  simp only at hc hd
  subst hc hd
  have e1 := F.sub_list_set
  have e2 := F.sub_list_frozenset
  have e3 : (Value.type "list" == Value.type "dict") = false := by decide
  unfold Builtin.«set.__init__»
  unfold noKeywords
  unfold Builtin.Frozenset.updateFrom
  generalize hq : pyIter = go
  wp_walk
  subst hq
  refine wpAny_pyIter_list gl0 (wpAny_bind (wpAny_runValue ?_))
  have lt : l < hp.objs.size := Heap.lt_size ho
  have ltS : S < hp.objs.size := Heap.lt_size gS
  have Sl : S ≠ l := fun z => by
    rw [z] at gS
    have c := congrArg Obj.cls (Option.some.inj (ho.symm.trans gS))
    have c : Value.type "list" = Value.type "set" := c
    exact absurd c (by decide)
  have away : S ∉ [hp.objs.size, l] := by
    simp only [List.mem_cons, List.not_mem_nil, or_false, not_or]
    exact ⟨Nat.ne_of_lt ltS, Sl⟩
  have vals : ∀ (i : Nat) (v : Value), items[i]? = some v → ∃ n t, is[i]? = some n ∧ v = .int n t := fun i v hv => by
    have h : i < is.length := by rw [← size]; exact (Array.getElem?_eq_some_iff.mp hv).1
    obtain ⟨t, e⟩ := PyProof.Rows.IntsAre.int_at hi i v (by rw [Array.getElem?_toList]; exact hv)
    refine ⟨is[i], t, List.getElem?_eq_getElem h, ?_⟩
    rw [e, List.getD_eq_getElem?_getD, List.getElem?_eq_getElem h]
    rfl
  have W := (Walks.list (prog := P) (w := w) (A := A.in1.in1) (by simp [hA]) hp.objs.size l (Nat.ne_of_lt lt) items).toS
  refine set_update_ints W S away is size few vals (items.size - 0) 0 ⟨hp.push { cls := .type "list_iterator", data := .fields #[.ref l, .int 0 0] }, g, d, tk, os⟩ (by omega) (Nat.zero_le _) ⟨⟨_, Heap.get?_push_size _ rfl, rfl, rfl⟩, gl0.push _⟩ ⟨0, Nat.le_refl 0, setR_new_at (show (hp.push { cls := .type "list_iterator", data := .fields #[.ref l, .int 0 0] }).get? S = some (newS w) from Heap.get?_push_of_some _ gS)⟩ fun z n mv hn hz => ?_
  obtain ⟨H, g2, d2, tk2, os2⟩ := z
  have z1 : g2 = g := mv.gens
  have z2 : d2 = d := mv.drawn
  have z3 : os2 = os := mv.os
  subst z1 z2 z3
  show wpAny _ _ _ _ _ _
  refine wpAny_pure ?_
  show wpAny _ _ (ret Value.none) _ _ _
  refine wpAny_pure (hR H tk2 n hz (by rw [← size]; exact hn) fun b o e ne => ?_)
  refine mv.heap b o ?_ (Heap.get?_push_of_some _ e)
  simp only [List.mem_cons, List.not_mem_nil, or_false, not_or]
  exact ⟨ne, Nat.ne_of_lt (Heap.lt_size e)⟩
/-- set(xs) -/
theorem made_lst {l : Addr} {q : Shared} {items : Array Value} (is : List Int) (hA : A.handled = none) (gl : q.heap.IsList l items) (hi : IntsAre items.toList is) (few : is.length + 1 < scanBound) {Q : Value → Shared → Prop}
    (hQ : ∀ (H : Heap) (tk n : Nat), SetR w H q.heap.objs.size (fun j => decide (j ∈ is)) n → n ≤ is.length → (∀ b o, q.heap.get? b = some o → H.get? b = some o) → Q (.ref q.heap.objs.size) { q with heap := H, toks := tk }) :
    wpAny (model P w) A (call (.type "set") [.ref l]) Q E q := by
  obtain ⟨c0, tl0, hmro⟩ := F.called_set.mro
  have m1 := F.called_set.made
  have m2 := F.called_set.sub
  have m3 := F.called_set.notType
  have m4 := F.called_set.canCreate
  have m5 := F.typeCall_set_1 (.ref l)
  refine wpAny_call (codeAny_of_tree ?_)
  show wpAny _ _ (callAny (.type "set") _) _ _ _
  refine wpAny_pure ⟨Code.quiet_builtin _ (by decide +kernel), codeAny_builtin F.entry_type_call ?_⟩
  rw [Around.under_plain (weight_type_call_type "set" [.ref l] []) rfl]
  repeat (any_goals (first | assumption | wp_step))
  refine codeAny_mono (code_set_led1 (.ref l) (E := E) (Q₁ := fun v z => v = .ref q.heap.objs.size ∧ z = { q with heap := q.heap.push (newS w) }) ⟨rfl, rfl⟩) fun r z hr => ?_
  cases r with
  | error e => exact hr
  | ok fl =>
    cases fl with
    | ret v =>
      obtain ⟨rfl, rfl⟩ := hr
      have gS : (q.heap.push (newS w)).get? q.heap.objs.size = some (newS w) := Heap.get?_push_size _ rfl
      have tS : Shared.TypeIs { q with heap := q.heap.push (newS w) } (.ref q.heap.objs.size) "set" := ⟨_, gS, rfl⟩
      have i1 := F.called_set.init.lookup
      have i2 := F.called_set.init.bind (.ref q.heap.objs.size)
      repeat (any_goals (first | assumption | wp_step))
      refine codeAny_mono (init_lst is (by simp [hA]) gS (gl.push _) hi few (R := wants (fun r z => r = .none ∧ ∃ H tk n, z = { q with heap := H, toks := tk } ∧ SetR w H q.heap.objs.size (fun j => decide (j ∈ is)) n ∧ n ≤ is.length ∧ ∀ b o, q.heap.get? b = some o → H.get? b = some o) E) fun H tk n hz hn hk => ?_) fun r z hr => ?_
      · exact ⟨rfl, H, tk, n, rfl, hz, hn, fun b o e => hk b o (Heap.get?_push_of_some _ e) (Nat.ne_of_lt (Heap.lt_size e))⟩
      · cases r with
        | error e => exact hr
        | ok fl =>
          cases fl with
          | ret v =>
            obtain ⟨rfl, H, tk, n, rfl, hz, hn, hk⟩ := hr
            repeat (any_goals (first | assumption | wp_step))
            exact hQ _ _ _ hz hn hk
          | _ => exact hr.elim
    | _ => exact hr.elim
end
/-- set(xs), xs a list of numbers -/
theorem cr_setL {X : Cx} (hc : X.calm = true) : CallR X (.type "set") (fun vs H Q => ∃ (a : Addr) (ns : List Int), vs = [V.ref a] ∧ SqL X.K H a (ns.map V.int) ∧ ns.length < 60 ∧ ∀ (p : Addr) (n : Nat), H p = none → n ≤ ns.length → Q (.ref p) (upd H p (SetO X.w p (fun j => decide (j ∈ ns)) n))) := by
  intro pins s σ H vs us Q I r ⟨a, ns, e, hs, few, q⟩
  subst e
  obtain ⟨its, rv, pl, hz⟩ := I.list hs
  rw [Vals.ref1 r]
  refine made_lst ns (I.ok.hd hc) pl.isList (by simpa using rv.ints) (by unfold scanBound; omega) fun h tk n hS hn hk => ?_
  exact ⟨.ref _, _, I.laid (t' := tk) (o := SetO X.w s.heap.objs.size (fun j => decide (j ∈ ns)) n) hk (Nat.le_refl _) (setO_new hS), rfl, q _ n (I.hok.fresh (Nat.le_refl _)) hn⟩
end Rf

set_option Elab.async false
set_option maxRecDepth 100000
set_option maxHeartbeats 4000000
/-! Rf, part Pv: t[::-1] of a tuple. -/
namespace Rf
open PySem PySem.Spec PyProof.Rows L2 PySem.Calls
theorem back_adjust (n : Nat) : Builtin.Slice.sliceAdjust none none (-1) (n : Int) = ((n : Int) - 1, -1) := by
  unfold Builtin.Slice.sliceAdjust
  simp
theorem back_places (n : Nat) : Builtin.Slice.slicePlaces ((n : Int) - 1) (-1) (-1) = n := by
  unfold Builtin.Slice.slicePlaces
  have h : ¬ ((-1 : Int) > 0) := by decide
  simp only [h, if_false]
  rw [show (-(-1 : Int)) = 1 from by decide, Int.ediv_one]
  split <;> omega
theorem back_pick (xs : Array Value) : ((List.range xs.size).filterMap fun (k : Nat) => xs[((xs.size : Int) - 1 + (k : Int) * -1).toNat]?).toArray = xs.toList.reverse.toArray := by
  congr 1
  have e : ∀ l : List Nat, (∀ k ∈ l, k < xs.size) → (l.filterMap fun (k : Nat) => xs[((xs.size : Int) - 1 + (k : Int) * -1).toNat]?) = l.filterMap fun (k : Nat) => xs.toList.reverse[k]? := by
    intro l
    induction l with
    | nil => intro _; rfl
    | cons k l ih =>
      intro h
      have hk := h k (List.mem_cons_self ..)
      rw [List.filterMap_cons, List.filterMap_cons, ih fun k hk => h k (List.mem_cons_of_mem _ hk)]
      have one : xs[((xs.size : Int) - 1 + (k : Int) * -1).toNat]? = xs.toList.reverse[k]? := by
        rw [List.getElem?_reverse (by simpa using hk), Array.length_toList, Array.getElem?_toList]
        congr 1
        omega
      rw [one]
  have e := e (List.range xs.size) fun k hk => List.mem_range.mp hk
  rw [e]
  apply List.ext_getElem?
  intro i
  have hl : xs.size = xs.toList.reverse.length := by simp
  rw [hl]
  generalize xs.toList.reverse = l
  clear hl
  induction l generalizing i with
  | nil => simp
  | cons a r ih =>
    rw [List.length_cons, List.range_succ_eq_map, List.filterMap_cons]
    simp only [List.getElem?_cons_zero, List.filterMap_map]
    cases i with
    | zero => rfl
    | succ i =>
      rw [List.getElem?_cons_succ, List.getElem?_cons_succ]
      exact ih i
section
variable {prog : Program} {w : World} {A : Around} {E : Value → Shared → Prop} {s : Shared}
theorem back_applied {sl : Addr} {vl vu vs : Value} {n : Nat} {Q : Int × Int × Nat → Shared → Prop} (hs : s.heap.IsSliceOf sl vl vu vs) (pl : IsPart vl none) (pu : IsPart vu none) (ps : IsPart vs (some (-1)))
    (h : Q ((n : Int) - 1, -1, n) s) : wpAny (model prog w) A (Builtin.Slice.sliceApplied (.ref sl) (pure (n : Int))) Q E s := by
  obtain ⟨os, g1, _, g3⟩ := id hs
  unfold Builtin.Slice.sliceApplied
  unfold Builtin.Slice.sliceFields
  refine wpAny_bind (wpAny_bind (wpAny_field g1 g3 (x := vl) rfl ?_))
  refine wpAny_bind (wpAny_field g1 g3 (x := vu) rfl ?_)
  refine wpAny_bind (wpAny_field g1 g3 (x := vs) rfl (wpAny_pure ?_))
  refine wpAny_bind (HT.slicePart_ ps ?_)
  show wpAny _ _ (if ((-1 : Int) == 0) = true then _ else _) _ _ s
  rw [if_neg (by decide)]
  refine wpAny_bind (HT.slicePart_ pl (wpAny_bind (HT.slicePart_ pu ?_)))
  refine wpAny_bind (wpAny_pure ?_)
  show wpAny _ _ (match Builtin.Slice.sliceAdjust none none (-1) (n : Int) with | (a, b) => pure (a, (-1 : Int), Builtin.Slice.slicePlaces a b (-1))) _ _ s
  rw [back_adjust]
  show wpAny _ _ (pure ((n : Int) - 1, (-1 : Int), Builtin.Slice.slicePlaces ((n : Int) - 1) (-1) (-1))) _ _ s
  rw [back_places]
  exact wpAny_pure h
theorem back_item {t sl : Addr} {items : Array Value} {vl vu vs : Value} {Q : Value → Shared → Prop} (ht : IsTup s.heap t items) (hs : s.heap.IsSliceOf sl vl vu vs) (pl : IsPart vl none) (pu : IsPart vu none) (ps : IsPart vs (some (-1))) (hz : items.size ≤ sizeLine)
    (h : Q (.ref s.heap.objs.size) { s with heap := s.heap.push { cls := .type "tuple", data := .seq items.toList.reverse.toArray } }) : wpAny (model prog w) A (getItem (.ref t) (.ref sl)) Q E s := by
  have fit : sizeOk (.seq items.toList.reverse.toArray) := by
    show items.toList.reverse.toArray.size ≤ sizeLine
    simpa using hz
  obtain ⟨os, g1, g2, _⟩ := id hs
  have hT : s.TypeIs (.ref sl) "slice" := ⟨os, g1, g2⟩
  unfold getItem
  try with_reducible refine wpAny_holding ?_
  first | refine wpAny_bind (wpAny_pure ?_) | skip
  refine wpAny_bind (wpAny_sequenceKey ht.typeIs (by decide) (wpAny_bind ?_))
  refine wpAny_callSpecial?_slot (name := Str.ofString "__getitem__") ht.typeIs PyProof.Rows.slot_tuple_getitem ?_
  refine wpAny_call_entry PyProof.Rows.slot_tuple_getitem ht.typeIs entry_tuple_getitem ?_ (args_tuple_getitem _ _)
  show wpAny _ _ (Builtin.Tuple.tupleItemsOf (.ref t) >>= _) _ _ s
  refine wpAny_bind (PyProof.Rows.tupleItemsOf_ ht (wpAny_bind (wpAny_typeOf hT ?_)))
  rw [if_pos (by decide)]
  refine wpAny_bind (back_applied hs pl pu ps ?_)
  have no : ¬ ((((items.size : Int) - 1) == 0 && (-1 : Int) == 1 && items.size == items.size) = true) := by
    rw [show ((-1 : Int) == 1) = false from by decide, Bool.and_false, Bool.false_and]
    exact Bool.false_ne_true
  show wpAny _ _ (if (((items.size : Int) - 1) == 0 && (-1 : Int) == 1 && items.size == items.size) = true then _ else _) _ _ s
  rw [if_neg no, back_pick]
  first
    | exact wpAny_bind (m := Builtin.Tuple.tupleExact _) (wpAny_newObj_type (wpAny_pure ⟨_, rfl, wpAny_pure h⟩) fit)
    | exact wpAny_bind (m := Builtin.Tuple.tupleExact _) (wpAny_newObj_type (wpAny_bind (wpAny_pure (wpAny_pure ⟨_, rfl, wpAny_pure h⟩))) fit)
    | exact wpAny_bind (wpAny_bind (m := Builtin.Tuple.tupleExact _) (wpAny_newObj_type (wpAny_pure (wpAny_pure ⟨_, rfl, wpAny_pure h⟩)) fit))
    | exact wpAny_bind (wpAny_bind (m := Builtin.Tuple.tupleExact _) (wpAny_newObj_type (wpAny_pure ⟨_, rfl, wpAny_pure h⟩) fit))
end
/-- a[::-1] -/
theorem pe_back {X : Cx} {e : Expr} {te : TE} {k : Nat} {p1 p2 p3 pos : Pos} (he : PE X e te) : PE X (.Subscript e (.Slice none none (some (.UnaryOp .USub (.Constant (.int 1) k p1) p2)) p3) pos)
    (fun σ H Q => te σ H fun x H1 => ∃ a xs, x = .ref a ∧ ((SqL X.K H1 a xs ∧ ∀ p, H1 p = none → Q (.ref p) (upd H1 p (.lst xs.reverse))) ∨ (SqT X.K H1 a xs ∧ ∀ p, H1 p = none → Q (.ref p) (upd H1 p (.tup xs.reverse))))) := by
  refine ⟨fun pins s σ H Q I h => ?_⟩
  refine Subscript_ (thn (he.run pins s σ H _ I h) fun v s1 ⟨x, H1, I1, r1, a, xs, ex, q⟩ => ?_)
  subst ex
  cases r1
  have step : PO X (some (.UnaryOp .USub (.Constant (.int 1) k p1) p2)) (tPart (tUn (rU fun i => .int (-i)) (tC (.int 1)))) := po_some (pe_un un_neg pe_int)
  refine wpAny_Slice (thn (po_none.run pins s1 σ H1 (fun o G => o = none ∧ G = H1) I1 ⟨rfl, rfl⟩) fun vl s2 ⟨o1, G1, I2, pl, z1, z2⟩ => ?_)
  subst z1 z2
  refine thn (po_none.run pins s2 σ G1 (fun o G => o = none ∧ G = G1) I2 ⟨rfl, rfl⟩) fun vu s3 ⟨o2, G2, I3, pu, z3, z4⟩ => ?_
  subst z3 z4
  refine thn (step.run pins s3 σ G2 (fun o G => o = some (-1) ∧ G = G2) I3 ⟨1, rfl, -1, rfl, rfl, rfl⟩) fun vs s4 ⟨o3, G3, I4, ps, z5, z6⟩ => ?_
  subst z5 z6
  have I5 : Inv X pins σ G3 { s4 with heap := s4.heap.push { cls := .type "slice", data := .fields #[vl, vu, vs] } } := I4.kept (t' := s4.toks) fun b ob q => Heap.get?_push_of_some _ q
  show wpAny (model X.prog X.w) X.A (subscriptTail e (.Slice none none (some (.UnaryOp .USub (.Constant (.int 1) k p1) p2)) p3) (.ref a) (.ref s4.heap.objs.size)) (EP X pins σ Q) X.xe { s4 with heap := s4.heap.push { cls := .type "slice", data := .fields #[vl, vu, vs] } }
  rcases q with ⟨hx, q⟩ | ⟨hx, q⟩
  · obtain ⟨its, r, ht, hz⟩ := I5.list hx
    have len := r.length
    refine tail_any (ops := [.ref a, .ref s4.heap.objs.size]) ht.isList.typeIs (PySem.slot_list_getitem.lookup) ?_ (by with_unfolding_all rfl)
    refine wpAny_getItem_list_slice ht.isList (Heap.IsSliceOf.new _ vl vu vs) pl pu ps (by decide) ?_ (by rw [List.size_toArray]; omega)
    rw [PySem.W.krv_pick]
    exact ⟨.ref _, _, I5.laid (t' := s4.toks) (o := .lst xs.reverse) (fun b ob q => Heap.get?_push_of_some _ q) (Nat.le_refl _) ⟨by rw [List.length_reverse]; exact hz, _, 0, r.reverse, Heap.get?_push_size _ rfl⟩, rfl, q _ (I5.hok.fresh (Nat.le_refl _))⟩
  · obtain ⟨its, r, ht, hz⟩ := I5.tuple hx
    have len := r.length
    refine tail_any (ops := [.ref a, .ref s4.heap.objs.size]) ht.typeIs PyProof.Rows.slot_tuple_getitem.lookup ?_ (by with_unfolding_all rfl)
    refine back_item ht (Heap.IsSliceOf.new _ vl vu vs) pl pu ps (by rw [List.size_toArray]; omega) ?_
    exact ⟨.ref _, _, I5.laid (t' := s4.toks) (o := .tup xs.reverse) (fun b ob q => Heap.get?_push_of_some _ q) (Nat.le_refl _) ⟨by rw [List.length_reverse]; exact hz, _, r.reverse, IsTup.new _ _⟩, rfl, q _ (I5.hok.fresh (Nat.le_refl _))⟩
end Rf

set_option Elab.async false
set_option maxRecDepth 100000
set_option maxHeartbeats 4000000
/-! Rf, part Pt: sum(xs, []) of a list of lists. -/
namespace Rf
open PySem PySem.Spec PyProof.Rows L2 PySem.Calls
/-- a list's object -/
abbrev lo (its : List Value) (n : Nat) : Obj := { cls := .type "list", data := .seq its.toArray n }
section
variable {P : Program} {w : World} {A : Around} {R : Result → Shared → Prop}
theorem cat_loop {l I S : Addr} (hA : A.handled = none) (ls : List (Addr × List Value)) (lI : l ≠ I) (SI : S ≠ I) (lS : l ≠ S) :
    ∀ (k i : Nat) (q : Shared) (t c n : Nat) (acc : List Value), ls.length - i = k → i ≤ ls.length → q.heap.IsListIter I l i → q.heap.IsList l (ls.map fun p => Value.ref p.1).toArray → q.heap.get? S = some (lo [.ref t] c) → q.heap.get? t = some (lo acc n) → t ≠ S → t ≠ I →
      (∀ p ∈ ls, p.1 ≠ S ∧ p.1 ≠ I ∧ ∃ m, q.heap.get? p.1 = some (lo p.2 m)) → acc.length + ((ls.drop i).map fun p => p.2.length).sum ≤ sizeLine →
      (∀ (H : Heap) (tk u m : Nat), (∀ b o, b ≠ S → b ≠ I → q.heap.get? b = some o → H.get? b = some o) → H.get? u = some (lo (acc ++ ((ls.drop i).map (·.2)).flatten) m) → ((i = ls.length ∧ u = t) ∨ q.heap.get? u = none) → R (.ok (.ret (.ref u))) { q with heap := H, toks := tk }) →
      codeAny (model P w) A (.builtin "sum.loop" ⟨[.ref I, .ref S, rawInt 2, rawInt 0], []⟩) R q := by
  intro k
  induction k with
  | zero =>
    intro i q t c n acc hk hi it gl gS gt tS tI hp hz hR
    have e : i = ls.length := by omega
    subst e
    refine codeAny_builtin F.entry_sum_loop ?_
    rw [Around.under_plainId F.plain_sum_loop _]
    show wpAny _ A.in1 (seqItems? (.ref S) >>= _) _ _ q
    refine wpAny_bind (wpAny_seqItems gS rfl ?_)
    show wpAny _ A.in1 (tryCatch (pyNext (.ref I)) _ >>= _) _ _ q
    have W := Walks.list (prog := P) (w := w) (A := A.in1) (by simp [hA]) I l lI (ls.map fun p => Value.ref p.1).toArray
    refine wpAny_bind (wpAny_tryCatch (W.done q _ _ ⟨by simpa using it, gl⟩ fun H tk hk => ?_))
    refine wpAny_pure (hR H tk t n (fun b o _ nI e => hk b o (by simpa using nI) e) ?_ (.inl ⟨rfl, rfl⟩))
    rw [List.drop_length]
    simpa using hk t _ (by simpa using tI) gt
  | succ k ih =>
    intro i q t c n acc hk hi it gl gS gt tS tI hp hz hR
    have lt : i < ls.length := by omega
    refine codeAny_builtin F.entry_sum_loop ?_
    rw [Around.under_plainId F.plain_sum_loop _]
    show wpAny _ A.in1 (seqItems? (.ref S) >>= _) _ _ q
    refine wpAny_bind (wpAny_seqItems gS rfl ?_)
    show wpAny _ A.in1 (tryCatch (pyNext (.ref I)) _ >>= _) _ _ q
    have W := Walks.list (prog := P) (w := w) (A := A.in1) (by simp [hA]) I l lI (ls.map fun p => Value.ref p.1).toArray
    refine wpAny_bind (wpAny_tryCatch (W.item i q _ _ (by simpa using lt) ⟨it, gl⟩ fun v H tk hv st hk => ?_))
    have hv : v = .ref ls[i].1 := by simpa [lt] using hv.symm
    subst hv
    obtain ⟨a1, a2, m, a3⟩ := hp ls[i] (List.getElem_mem lt)
    have keep : ∀ b o, b ≠ I → q.heap.get? b = some o → H.get? b = some o := fun b o nb e => hk b o (by simpa using nb) e
    have gS1 := keep _ _ SI gS
    have gt1 := keep _ _ tI gt
    have a4 := keep _ _ a2 a3
    have dr : ls.drop i = ls[i] :: ls.drop (i + 1) := List.drop_eq_getElem_cons lt
    rw [dr] at hz
    simp only [List.map_cons, List.sum_cons] at hz
    show wpAny _ A.in1 ((holding [Value.ref ls[i].1] (binaryOp .Add (.ref t) (.ref ls[i].1))).attempt >>= _) _ _ _
    refine wpAny_bind (wpAny_attempt (wpAny_holding (PySem.P.add_list gt1 a4 ?_ (by rw [List.size_toArray, List.size_toArray]; omega))))
    generalize hN : ({ cls := .type "list", data := .seq (acc.toArray ++ (ls[i].2).toArray) } : Obj) = ob
    have hob : ob = lo (acc ++ ls[i].2) 0 := by rw [← hN]; simp [lo]
    have gS2 : (H.push ob).get? S = some (lo [.ref t] c) := Heap.get?_push_of_some _ gS1
    show wpAny _ A.in1 (updateSeq S (fun _ => #[.ref H.objs.size]) >>= _) _ _ _
    refine wpAny_bind (wpAny_updateSeq gS2 rfl ?_)
    have gS3 := Heap.get?_update_self (Obj.mapSeq fun _ => #[Value.ref H.objs.size]) gS2 rfl
    refine wpAny_bind (wpAny_letGo (wpAny_bind ?_))
    refine wpAny_updateSeq gS3 rfl (wpAny_pure ⟨plainId_quiet F.plain_sum_loop _, ?_⟩)
    generalize hG : ((H.push ob).update S (Obj.mapSeq fun _ => #[Value.ref H.objs.size])).update S (Obj.mapSeq fun _ => #[Value.ref H.objs.size]) = G
    have at_ : ∀ b o, b ≠ S → (H.push ob).get? b = some o → G.get? b = some o := fun b o nb e => by
      rw [← hG]
      exact (Heap.get?_update_other _ _ (Ne.symm nb)).trans ((Heap.get?_update_other _ _ (Ne.symm nb)).trans e)
    have old : ∀ b o, b ≠ S → b ≠ I → q.heap.get? b = some o → G.get? b = some o := fun b o nS nI e => at_ b o nS (Heap.get?_push_of_some _ (keep b o nI e))
    have gS4 : ∃ c', G.get? S = some (lo [.ref H.objs.size] c') := by
      rw [← hG]
      exact ⟨_, Heap.get?_update_self _ gS3 rfl⟩
    obtain ⟨c', gS4⟩ := gS4
    have new : (H.push ob).get? H.objs.size = some ob := Heap.get?_push_size _ (by rw [hob]; rfl)
    have nS : H.objs.size ≠ S := fun z => Nat.lt_irrefl _ (by have := Heap.lt_size gS1; rw [← z] at this; exact this)
    obtain ⟨oI, eI, _⟩ := st.1
    have nI : H.objs.size ≠ I := fun z => Nat.lt_irrefl _ (by have := Heap.lt_size eI; rw [← z] at this; exact this)
    refine ih (i + 1) _ H.objs.size c' 0 (acc ++ ls[i].2) (by omega) lt ?_ ?_ gS4 ?_ nS nI (fun p hp' => ?_) ?_ (fun H2 tk2 u m2 k2 g2 d2 => ?_)
    · exact st.1.at fun o e => at_ I o (Ne.symm SI) (Heap.get?_push_of_some _ e)
    · exact st.2.at fun o e => at_ l o lS (Heap.get?_push_of_some _ e)
    · rw [← hob]; exact at_ _ _ nS new
    · obtain ⟨b1, b2, m', b3⟩ := hp p hp'
      exact ⟨b1, b2, m', old _ _ b1 b2 b3⟩
    · rw [List.length_append]; omega
    · refine hR H2 tk2 u m2 (fun b o nS' nI' e => k2 b o nS' nI' (old b o nS' nI' e)) ?_ (.inr ?_)
      · rw [dr, List.map_cons, List.flatten_cons, ← List.append_assoc]
        exact g2
      · have gI : G.get? I = some oI := at_ I oI (Ne.symm SI) (Heap.get?_push_of_some _ eI)
        have no : ∀ v, G.get? v = none → q.heap.get? v = none := fun v z => by
          cases e : q.heap.get? v with
          | none => rfl
          | some o =>
            by_cases vS : v = S
            · rw [vS, gS4] at z; cases z
            · by_cases vI : v = I
              · rw [vI, gI] at z; cases z
              · rw [old v o vS vI e] at z; cases z
        rcases d2 with ⟨_, rfl⟩ | d2
        · cases e : q.heap.get? H.objs.size with
          | none => rfl
          | some o => exact absurd (Heap.lt_size (keep _ o nI e)) (Nat.lt_irrefl _)
        · exact no u d2
variable {E : Value → Shared → Prop}
theorem args_two (a b : Value) : argsOk "sum" ⟨[a, b], []⟩ := by unfold argsOk; kernel_rfl
theorem bind_two (b : Value) : Builtin.Builtins.bindParams "sum" ["start"] 0 ⟨[b], []⟩ = pure [some b] := by first | rfl | kernel_rfl
theorem cat_call {l t : Addr} {n : Nat} {q : Shared} (hA : A.handled = none) (ls : List (Addr × List Value)) (gl : q.heap.IsList l (ls.map fun p => Value.ref p.1).toArray) (gt : q.heap.get? t = some (lo [] n)) (hp : ∀ p ∈ ls, ∃ m, q.heap.get? p.1 = some (lo p.2 m))
    (hz : (ls.map fun p => p.2.length).sum ≤ sizeLine) {Q : Value → Shared → Prop}
    (hQ : ∀ (H : Heap) (tk u m : Nat), (∀ b o, q.heap.get? b = some o → H.get? b = some o) → H.get? u = some (lo ((ls.map (·.2)).flatten) m) → ((ls = [] ∧ u = t) ∨ q.heap.get? u = none) → Q (.ref u) { q with heap := H, toks := tk }) :
    wpAny (model P w) A (call (.builtin "sum") [.ref l, .ref t]) Q E q := by
  refine call_function_tree F.kind_sum F.plain_sum F.entry_sum (args_two _ _) ?_
  unfold Builtin.«sum»
  simp only [List.length_cons, List.length_nil]
  rw [if_neg (by decide)]
  refine wpAny_bind (wpAny_of_eq (bind_two _) ?_)
  refine wpAny_bind (wpAny_pyIter_list gl ?_)
  generalize hit : ({ cls := .type "list_iterator", data := .fields #[.ref l, .int 0 0] } : Obj) = it
  have tt : ∀ tk, Shared.TypeIs { q with heap := q.heap.push it, toks := tk } (.ref t) "list" := fun tk => ⟨_, Heap.get?_push_of_some _ gt, rfl⟩
  refine wpAny_bind (wpAny_pure ?_)
  simp only [List.forIn_cons, List.forIn_nil]
  refine wpAny_bind (wpAny_bind (wpAny_bind (wpAny_isInstance (T := "list") (b := false) (tt _) F.sub_list_str ?_)))
  simp only [Bool.false_eq_true, if_false]
  refine wpAny_pure (wpAny_bind (wpAny_bind (wpAny_isInstance (T := "list") (b := false) (tt _) F.sub_list_bytes ?_)))
  simp only [Bool.false_eq_true, if_false]
  refine wpAny_pure (wpAny_bind (wpAny_bind (wpAny_isInstance (T := "list") (b := false) (tt _) F.sub_list_bytearray ?_)))
  simp only [Bool.false_eq_true, if_false]
  refine wpAny_pure (wpAny_pure (wpAny_bind (wpAny_newObj_type ?_)))
  have ii : it.isFreed = false := by rw [← hit]; rfl
  have s1 : (q.heap.push it).objs.size = q.heap.objs.size + 1 := Heap.size_push ..
  have gI : (q.heap.push it).get? q.heap.objs.size = some it := Heap.get?_push_size _ ii
  have gl0 := gl
  obtain ⟨ol, el, _⟩ := gl
  have lt := Heap.lt_size el
  have tlt := Heap.lt_size gt
  have up : ∀ {b : Addr} {o : Obj}, q.heap.get? b = some o → ∀ x, ((q.heap.push it).push x).get? b = some o := fun e x => Heap.get?_push_of_some _ (Heap.get?_push_of_some _ e)
  refine wpAny_pure ⟨plainId_quiet F.plain_sum_loop _, cat_loop (S := (q.heap.push it).objs.size) hA ls (Nat.ne_of_lt lt) (by rw [s1]; exact Nat.succ_ne_self _) (by rw [s1]; exact Nat.ne_of_lt (Nat.lt_succ_of_lt lt)) ls.length 0 _ t 0 n []
    (Nat.sub_zero _) (Nat.zero_le _) ⟨it, Heap.get?_push_of_some _ gI, by rw [← hit], by rw [← hit]; rfl⟩ ?_ (Heap.get?_push_size _ rfl) (up gt _) (by rw [s1]; exact Nat.ne_of_lt (Nat.lt_succ_of_lt tlt)) (Nat.ne_of_lt tlt) (fun p h => ?_) (by simpa using hz) fun H tk u m k g d => ?_⟩
  · exact Heap.IsList.push (Heap.IsList.push gl0 _) _
  · obtain ⟨m, e⟩ := hp p h
    have z := Heap.lt_size e
    exact ⟨by rw [s1]; exact Nat.ne_of_lt (Nat.lt_succ_of_lt z), Nat.ne_of_lt z, m, up e _⟩
  · refine hQ H tk u m (fun b o e => ?_) (by simpa using g) ?_
    · have z := Heap.lt_size e
      exact k b o (by rw [s1]; exact Nat.ne_of_lt (Nat.lt_succ_of_lt z)) (Nat.ne_of_lt z) (up e _)
    · rcases d with ⟨z, rfl⟩ | d
      · exact .inl ⟨List.eq_nil_of_length_eq_zero z.symm, rfl⟩
      · refine .inr ?_
        cases e : q.heap.get? u with
        | none => rfl
        | some o => rw [up e] at d; cases d
end
/-- what is told of stands -/
theorem there {P : Program} {w : World} {H : Hp} {h : Heap} {a : Addr} {o : HO} (x : ObjOk P w H h a o) : ∃ u, h.get? a = some u := by
  cases o with
  | lst => obtain ⟨_, _, _, _, e⟩ := x; exact ⟨_, e⟩
  | tup => obtain ⟨_, _, _, _, e, _⟩ := x; exact ⟨_, e⟩
  | dK => obtain ⟨_, _, _, _, o, _, _, e, _⟩ := x; exact ⟨_, e⟩
  | dT => obtain ⟨_, _, _, _, o, _, _, e, _⟩ := x; exact ⟨_, e⟩
  | set => obtain ⟨_, _, _, _, e, _⟩ := x; exact ⟨_, e⟩
  | ins => obtain ⟨_, _, _, e, _⟩ := x; exact ⟨_, e⟩
  | own => obtain ⟨_, e⟩ := x; exact ⟨_, e⟩
  | xd => obtain ⟨_, ⟨_, _, _, e, _⟩, _⟩ := x; exact ⟨_, e⟩
  | rng => obtain ⟨_, _, _, e⟩ := x; exact ⟨_, e⟩
  | frz => exact ⟨_, x.1⟩
  | tbl => exact ⟨_, x⟩
  | met => exact ⟨_, x⟩
  | ext => obtain ⟨_, e, _⟩ := x; exact e
/-- sum(xs, []) -/
theorem cr_cat {X : Cx} (hc : X.calm = true) : CallR X (.builtin "sum") (fun vs H Q => ∃ (a t : Addr) (ys : List (Addr × List V)), vs = [V.ref a, V.ref t] ∧ SqL X.K H a (ys.map fun p => V.ref p.1) ∧ H t = some (.lst []) ∧ (∀ p ∈ ys, H p.1 = some (.lst p.2)) ∧
    ((ys.map (·.2)).flatten).length ≤ sizeLine ∧ (ys = [] → Q (.ref t) H) ∧ ∀ p, H p = none → Q (.ref p) (upd H p (.lst (ys.map (·.2)).flatten))) := by
  intro pins s σ H vs us Q I r ⟨a, t, ys, e, hs, ht, hy, hz, q0, q1⟩
  subst e
  obtain ⟨its, rv, pl, zl⟩ := I.list hs
  clear zl
  cases r with
  | cons r1 r2 =>
    cases r2 with
    | cons r2 r3 =>
      cases r3
      cases r1
      cases r2
      obtain ⟨_, it0, n, r0, l0, et⟩ := I.lstM ht
      have : it0 = [] := List.eq_nil_of_length_eq_zero l0.symm
      subst this
      have each : ∃ ls : List (Addr × List Value), its = ls.map (fun p => Value.ref p.1) ∧ (∀ p ∈ ls, ∃ m, s.heap.get? p.1 = some (lo p.2 m)) ∧ Vals (ys.map (·.2)).flatten (ls.map (·.2)).flatten ∧ (ls = [] → ys = []) ∧ (ls.map fun p => p.2.length).sum = (ys.map (·.2)).flatten.length := by
        clear hs pl q0 q1 hz
        induction ys generalizing its with
        | nil =>
          cases rv
          exact ⟨[], rfl, (fun p h => by cases h), .nil, fun _ => rfl, rfl⟩
        | cons y ys ih =>
          rw [List.map_cons] at rv
          cases rv with
          | @cons _ u0 _ ur ra rb =>
            cases ra
            obtain ⟨_, yi, m, ry, ly, ey⟩ := I.lstM (hy y (List.mem_cons_self ..))
            obtain ⟨ls, e1, e2, e3, e4, e5⟩ := ih (fun p h => hy p (List.mem_cons_of_mem _ h)) ur rb
            refine ⟨(y.1, yi) :: ls, by rw [e1]; rfl, fun p h => ?_, ?_, (fun z => by cases z), ?_⟩
            · rcases List.mem_cons.mp h with rfl | h
              · exact ⟨m, ey⟩
              · exact e2 p h
            · rw [List.map_cons, List.flatten_cons, List.map_cons, List.flatten_cons]
              exact ry.append e3
            · rw [List.map_cons, List.sum_cons, List.map_cons, List.flatten_cons, List.length_append, e5, ly]
      obtain ⟨ls, rfl, e2, e3, e4, e5⟩ := each
      refine cat_call (I.ok.hd hc) ls pl.isList et e2 (by rw [e5]; exact hz) fun G tk u m k g d => ?_
      rcases d with ⟨z, d⟩ | d
      · have y0 := e4 z
        rw [d]
        exact ⟨.ref t, H, I.kept (t' := tk) k, rfl, q0 y0⟩
      · have hn : H u = none := by
          cases e : H u with
          | none => rfl
          | some o =>
            obtain ⟨z, e⟩ := there (I.hok u o e)
            rw [d] at e
            cases e
        exact ⟨.ref u, _, I.laidN (t' := tk) (o := .lst (ys.map (·.2)).flatten) k d hn ⟨hz, _, m, e3, g⟩, rfl, q1 u hn⟩
end Rf

set_option Elab.async false
set_option maxRecDepth 100000
set_option maxHeartbeats 4000000
/-! Rf, part Pk: list(d.keys()). -/
namespace Rf
open PySem PySem.Spec PyProof.Rows L2 PySem.Calls
theorem pe_lkeys {X : Cx} {e : Expr} {te : TE} {p apos cpos pos : Pos} (hc : X.calm = true) (he : PE X e te) (hg : Gl X "list") (hm : X.mg "list" = none) (hbase : attributeBase e "keys" X.env (eval e X.env) = eval e X.env) (hline : (apos.endLine == cpos.line) = true) :
    PE X (.Call (.Name "list" p) [.Call (.Attribute e "keys" apos) [] [] cpos] [] pos) (fun σ H Q => te σ H fun x H1 => ∃ (d : Addr) (kvs : List (Key × V)), x = .ref d ∧ H1 d = some (.dK kvs) ∧ ∀ q, H1 q = none → Q (.ref q) (upd H1 q (.lst (kvs.map fun kv => kV kv.1)))) := by
  refine ⟨fun pins s σ H Q I h => wpAny_Call_Name_kw (ld_blt I hg hm boot_list ?_)⟩
  have one : starEach [.Call (.Attribute e "keys" apos) [] [] cpos] X.env = (false, eval (.Call (.Attribute e "keys" apos) [] [] cpos) X.env) :: starEach [] X.env := by rfl
  refine PyProof.Rows.callWith_type1 ?_ one rfl
  rw [one]
  show wpAny _ _ (spliced ((false, eval (.Call (.Attribute e "keys" apos) [] [] cpos) X.env) :: backTo pos (starEach [] X.env))) _ _ s
  refine Calls.spliced_cons ?_
  refine wpAny_Call_method (T := "dict") (id := "dict.keys") hbase rfl hline F.plainAttrs_dict F.slot_dict_keys F.type_dict_keys (thn (he.run pins s σ H _ I h) fun u s1 ⟨x, H1, I1, rx, d, kvs, ex, hd, q⟩ => ?_)
  subst ex
  obtain rfl : u = Value.ref d := rx
  obtain ⟨z, low, vs, kv, dd⟩ := I1.hok d _ hd
  obtain ⟨ep, at_⟩ := dd.dictAt
  have I2 : Inv X pins σ H1 { s1 with heap := s1.heap.push { cls := .type "dict_keys", data := .fields #[.ref d] } } := I1.kept (t' := s1.toks) fun b ob q => Heap.get?_push_of_some _ q
  refine ⟨dd.typeIs, dd.mapOf.noDict, ?_⟩
  show wpAny _ _ (callWith cpos (.builtin "dict.keys") [.ref d] [] []) _ X.xe s1
  refine method_meetsIn F.slot_dict_keys F.entry_dict_keys rfl (PySem.evalArgs_none ⟨rfl, dd.typeIs, F.args_dict_keys_1 _, _, PySem.W.kdl_meets_keys (mixKind X.prog X.w) d low, ⟨vs, dd⟩, ?_⟩)
  refine Calls.spliced_nil ?_
  have len : kvs.length = vs.length := Paired.length kv
  have ek : (kvs.map fun kv => kV kv.1) = vs.map fun p => kV p.1 := by
    have e := congrArg (List.map kV) kv.keys
    rw [List.map_map, List.map_map] at e
    exact e
  refine PySem.W.kdl_call (PySem.W.kdl_keys (knd := mixKind X.prog X.w) (kvs := vs) (ep := ep)) (I1.ok.hd hc) ⟨⟨_, Heap.get?_push_size _ rfl, rfl, rfl⟩, at_.push _⟩ (by rw [← len]; exact z) fun h' tk acc c hk hS hacc => ?_
  have hv : Vals (vs.map fun p => kV p.1) acc.toList := keys_at (by rw [Array.length_toList]; exact hacc.1) fun j v e => hacc.2 j v (by rw [← Array.getElem?_toList]; exact e)
  exact ⟨.ref _, _, I2.laid (t' := tk) (o := .lst (kvs.map fun kv => kV kv.1)) hk (Nat.le_refl _) ⟨by rw [List.length_map]; exact z, acc.toList, c, by rw [ek]; exact hv, by rw [Array.toArray_toList]; exact hS⟩, rfl, q _ (I2.hok.fresh (Nat.le_refl _))⟩
end Rf

set_option Elab.async false
set_option maxRecDepth 100000
set_option maxHeartbeats 2000000
/-! Rf, part Xa: own exceptions with fields: what their __init__ does. -/
namespace Rf
open PySem PySem.Spec PyProof.Rows L2

/-- the context of an own exception's __init__: its one cell is the class's -/
def cxI (CT : CXT) (P : Program) (w : World) (K : PySem.W.Frag) (mg : Str → Option Value) (base : Heap) (N : List Str) (qual : Str) (scope : Scope) (f : Addr) (cd : Value) (cc : Addr) (A : Around) (outer : List PySem.Env) (s : Shared) (H : Hp) (E : XK) : Cx where
  prog := P
  w := w
  K := K
  mg := mg
  base := base
  N := N
  A := A.deeper (PySem.W.ksEnv qual scope s.heap.objs.size f cd cc)
  env := PySem.W.ksEnv qual scope s.heap.objs.size f cd cc
  stack := PySem.W.ksEnv qual scope s.heap.objs.size f cd cc :: outer
  s_0 := s
  H_0 := H
  outer := outer
  fn := fun _ => false
  ex := []
  pn := []
  calm := true
  xe := fun e s' => wpAny (model P w) (A.deeper (PySem.W.ksEnv qual scope s.heap.objs.size f cd cc)) (leaving (PySem.W.ksEnv qual scope s.heap.objs.size f cd cc) e) (fun _ s2 => CT outer H s E e s2) (fun e2 s2 => CT outer H s E e2 s2) s'

theorem lookup_zip {α : Type} : ∀ {ps : List Str} {us : List α} {i : Nat} {x : Str} {u : α}, ps.Nodup → ps[i]? = some x → us[i]? = some u → (ps.zip us).reverse.lookup x = some u := by
  intro ps us i x u nd h1 h2
  have mem : (x, u) ∈ (ps.zip us).reverse := by
    rw [List.mem_reverse]
    refine List.mem_iff_getElem?.mpr ⟨i, ?_⟩
    rw [List.getElem?_zip_eq_some]
    exact ⟨h1, h2⟩
  have uniq : ∀ q ∈ (ps.zip us).reverse, q.1 = x → q.2 = u := by
    intro q hq e
    rw [List.mem_reverse] at hq
    obtain ⟨j, hj⟩ := List.mem_iff_getElem?.mp hq
    rw [List.getElem?_zip_eq_some] at hj
    have : i = j := nodup_ix nd h1 (e ▸ hj.1)
    subst this
    rw [h2] at hj
    exact (Option.some.inj hj.2).symm
  generalize (ps.zip us).reverse = l at mem uniq
  induction l with
  | nil => cases mem
  | cons q l ih =>
    obtain ⟨y, v⟩ := q
    by_cases e : x = y
    · subst e
      have := uniq (x, v) List.mem_cons_self rfl
      subst this
      simp [List.lookup]
    · have e' : (x == y) = false := by simpa using e
      simp only [List.lookup, e']
      refine ih ?_ fun q hq => uniq q (List.mem_cons_of_mem _ hq)
      rcases List.mem_cons.mp mem with z | z
      · cases z; exact absurd rfl e
      · exact z

section
variable {CT : CXT} {P : Program} {w : World} {K : PySem.W.Frag} {mg : Str → Option Value} {base : Heap} {ps : List Str} {qual : Str} {scope : Scope} {f cc : Addr} {cd : Value} {A : Around} {outer : List PySem.Env} {s : Shared} {H : Hp} {E : XK} {us : List Value} {vs : List V}
theorem inv_init {h0 : Heap} {t : Nat} {ccl : Value} {cld : Option Addr} {cv : Option Value} {csl : Array (Option Value)} (hk : scope.kind = .function) (nd : ps.Nodup) (hloc : ∀ x ∈ ps, scope.names.lookup x = some .local) (hfr : ∀ y k, scope.names.lookup y = some k → (k = .cell → False) ∧ (k = .free → y = "__class__"))
    (hcell : K.lookup cc = some ⟨ccl, cld, .cell cv, csl⟩) (hd : A.handled = none) (e0 : Env0 P w K mg base A outer s H) (hl : vs.length = ps.length) (r : Vals vs us)
    (ns : h0.Ns s.heap.objs.size fun x => (ps.zip us).reverse.lookup x) (kp : ∀ b o, s.heap.get? b = some o → h0.get? b = some o) :
    Inv (cxI CT P w K mg base ps qual scope f cd cc A outer s H E) [] (vs.map some) H { s with heap := h0, toks := t } := by
  have noA : ∀ b : Addr, b ∉ (cxI CT P w K mg base ps qual scope f cd cc A outer s H E).ex := fun b z => absurd (show b ∈ ([] : List Addr) from z) (by simp)
  have one : ∀ y c, (cxI CT P w K mg base ps qual scope f cd cc A outer s H E).env.cells.lookup y = some c → y = "__class__" ∧ c = cc := fun y c h => by
    have h : ([("__class__", cc)] : List (Str × Addr)).lookup y = some c := h
    simp only [List.lookup] at h
    split at h
    · rename_i e
      exact ⟨by simpa using e, (Option.some.inj h).symm⟩
    · cases h
  have kb : base.get? cc = some ⟨ccl, cld, .cell cv, csl⟩ := e0.mod.kin _ _ hcell
  obtain ⟨kb1, kb2⟩ := e0.bs _ _ kb
  refine ⟨⟨e0.mod, hk, rfl, rfl, Nat.le_refl _, fun y z c h1 h2 => (one y c h1).1.trans (one z c h2).1.symm, fun y hy => ?_, fun y c h => absurd (show false = true from h) Bool.false_ne_true, fun _ => hd, Around.frames_deeper e0.frames, .inr ⟨rfl, rfl⟩, fun b z => absurd z (noA b), e0.bs, e0.bsz, fun b _ _ => noA b, fun b z => absurd z (noA b), e0.funs, e0.frf⟩,
    rfl, e0.bare, Un.kept kp, ⟨_, ns, fun i y v h1 h2 h3 => ?_⟩, fun y c h => ?_, e0.hok.fresh (Nat.le_refl _), fun y c h => ?_, fun p hp => absurd (show p ∈ ([] : List (Addr × Obj)) from hp) (by simp), e0.hok.kept kp, ?_⟩
  · refine ⟨cc, ?_⟩
    have hy : scope.names.lookup y = some .cell ∨ scope.names.lookup y = some .free := hy
    rcases hy with hy | hy
    · exact ((hfr y _ hy).1 rfl).elim
    · rw [(hfr y _ hy).2 rfl]
      rfl
  · rw [List.getElem?_map] at h2
    obtain ⟨v', e1, e2⟩ := Option.map_eq_some_iff.mp h2
    cases e2
    obtain ⟨u, e3, rv⟩ := r.get e1
    exact ⟨u, rv, .inl ⟨hloc y (List.mem_of_getElem? h1), lookup_zip nd h1 e3⟩⟩
  · rw [(one y c h).2]
    exact ⟨cv, _, kp _ _ kb1, rfl⟩
  · rw [(one y c h).2]
    exact kb2
  · rw [List.length_map]
    exact hl
end
end Rf

set_option Elab.async false
set_option maxRecDepth 100000
set_option maxHeartbeats 2000000
/-! Rf, part Xb: super().__init__(..) of an own exception. -/
namespace Rf
open PySem PySem.Spec PyProof.Rows L2

/-- what the written part says of such a class: C at x, its __init__ at f, the cell at cc, the code at cda -/
structure IexC (K : PySem.W.Frag) (C f cc cda : Addr) (file : Str) : Prop where
  ox : OexC K C
  init : PySem.W.findIn K (.ref C) "__init__" = some (some (.ref f))
  tf : PySem.W.typeIn K (.ref f) = some (.type "function")
  cell : ∃ cl cld csl, K.lookup cc = some ⟨cl, cld, .cell (some (.ref C)), csl⟩
  code : ∃ ccl cdd ccs vs t, K.lookup cda = some ⟨ccl, cdd, .fields vs, ccs⟩ ∧ vs[2]? = some (.str file t)
  cls : ∃ cd, PySem.W.clsIn K C = some cd
  own : PySem.W.mroIn K C (.ref C) = some true
  sup : PySem.W.ks_superIn K C C "__init__" = some (some (.builtin "ValueError.__init__"))
  ve : PySem.W.subIn K (.ref C) (.type "ValueError") = some true
  st : PySem.W.nsIn K cStatics "thirdparty.any" = some none

section
variable {prog : Program} {w : World} {A : Around} {E : Value → Shared → Prop} {h : Heap} {g : Array GenState} {d : Drawn} {t : Nat} {os : OsState}
/-- the bound __init__, called -/
theorem call_mw {C u e t0 N : Addr} {nm q : Str} {bs bm : List Value} {sn : List Str} {sub : List Value} {ab : Bool} {col : Option Bool} {dd : Option Addr} {k0 k1 k2 k3 k5 : Option Value} {rest : List Value} {Q : Value → Shared → Prop}
    (hC : h.get? C = some (excClassObj nm q C N bs bm true sn sub ab col dd k0 k1 k2 k3 k5 "ValueError.__new__")) (he : h.get? e = some ({ cls := .ref C, dict := none, data := .fields #[.ref t0, .none, .none, .none, .bool false, .none] } : Obj))
    (hu : h.get? u = some (PySem.W.kxs_mw "ValueError.__init__" e)) (hz : rest.length ≤ sizeLine)
    (hq : ∀ h' t1, (∀ b o, b ≠ e → h.get? b = some o → h'.get? b = some o) → h'.get? e = some ({ cls := .ref C, dict := none, data := .fields #[.ref t1, .none, .none, .none, .bool false, .none] } : Obj) → Q .none ⟨h', g, d, t, os⟩) :
    wpAny (model prog w) A (call (.ref u) rest) Q E ⟨h, g, d, t, os⟩ := by
  have FB := F.excBase_ValueError
  refine wpAny_call (codeAny_of_tree ?_)
  show wpAny _ A.in1 (callAny (.ref u) ⟨rest, []⟩) _ _ _
  simp only [callAny]
  refine wpAny_bind (wpAny_load hu ?_)
  simp only [PySem.W.kxs_mw, show (Value.type "method-wrapper" == Value.type "method" || Value.type "method-wrapper" == Value.type "builtin_function_or_method" || Value.type "method-wrapper" == Value.type "method-wrapper") = true by decide, if_true]
  refine PySem.W.KFB.if_so (by decide) (wpAny_bind (PySem.W.check_bound_init FB.toExcCallFacts hC he rfl (wpAny_bind (wpAny_pure (wpAny_pure ⟨plainId_quiet FB.init.plain _, codeAny_builtin FB.initEntry ?_⟩)))))
  exact PySem.W.exc_init_tree (cls := .ref C) (t0 := t0) (dv := none) (c2 := .none) (c3 := .none) (b4 := .bool false) he hz fun h' k e' _ => hq h' _ k e'
end

section
variable {CT : CXT} {P : Program} {w : World} {K : PySem.W.Frag} {mg : Str → Option Value} {base : Heap} {ps : List Str} {qual : Str} {scope : Scope} {f cc cda : Addr} {A : Around} {outer : List PySem.Env} {s0 : Shared} {H0 : Hp} {E : XK}
theorem front {C : Addr} {file : Str} {X : Cx} (hX : X = cxI CT P w K mg base ps qual scope f (.ref cda) cc A outer s0 H0 E) (T : IexC K C f cc cda file) {oc : Value} {od : Option Addr} {osl : Array (Option Value)} {fd : FuncData} (lf : K.lookup f = some ⟨oc, od, .func fd, osl⟩) {ar : Arg} (hp : (fd.params.posonlyargs ++ fd.params.args).head? = some ar)
    (hfile : ((P.main.file : Str) == file) = true) (htop : (P.main.scope.names.lookup ("super" : Str)).isSome = false) (hks : scope.names.lookup ("super" : Str) = some .globalImplicit) (hkc : scope.names.lookup ("__class__" : Str) = some .free) (hka : scope.names.lookup ar.arg = some .local) (hkf : scope.kind = .function)
    (hsu : mg "super" = none) (h0 : ps[0]? = some ar.arg) {body : List Stmt} {p0 p1 p2 p3 pos : Pos} {e1 : Expr} {es : List Expr} {ta : TA} (ha : PA X (e1 :: es) ta)
    (hl : (p2.endLine == p3.line) = true) (hfew : methodCallForm ((e1 :: es).length + 0) (backTo p3 (starEach (e1 :: es) X.env)) [] = true) (hst : starEach (e1 :: es) X.env = (false, eval e1 X.env) :: starEach es X.env) (hpl : (backTo p3 (starEach es X.env)).any (·.1) = false)
    {σ : L2.St} {H : Hp} {s : Shared} {a : Addr} (I : Inv X [] σ H s) (hs : σ[0]? = some (some (.ref a))) (hE : H a = some (exo a C none)) (hta : ta σ H fun vs H1 => vs.length ≤ 1000 ∧ H1 = H) {Q : Flow → Shared → Prop} {EX : Value → Shared → Prop} (hEX : ∀ e s, X.xe e s → EX e s)
    (hq : ∀ s', Inv X [] σ H s' → Q .next s') :
    _root_.PySem.wpAt (model P w) X.A (.func body X.env) (exec (.Expr (.Call (.Attribute (.Call (.Name "super" p0) [] [] p1) "__init__" p2) (e1 :: es) [] p3) pos) X.env) Q EX s := by
  obtain ⟨cl, cld, csl, lc⟩ := T.cell
  obtain ⟨ccl, cdd, ccs, vsc, tf, lcd, hvs⟩ := T.code
  obtain ⟨cdC, hcd⟩ := T.cls
  have hXK : X.K = K := by rw [hX]; rfl
  have hXP : X.prog = P := by rw [hX]; rfl
  have hXw : X.w = w := by rw [hX]; rfl
  have hXm : X.mg = mg := by rw [hX]; rfl
  have hXe : X.env = PySem.W.ksEnv qual scope s0.heap.objs.size f (.ref cda) cc := by rw [hX]; rfl
  have hXN : X.N = ps := by rw [hX]; rfl
  have KI : K.In s.heap := hXK ▸ I.kIn
  obtain ⟨oD, hD1, hD2⟩ : ∃ oD, s.heap.get? C = some oD ∧ oD.data = .cls cdC := by
    unfold PySem.W.clsIn at hcd
    split at hcd
    · rename_i c dd cd' sl ho
      cases hcd
      exact ⟨_, KI _ _ ho, rfl⟩
    · cases hcd
  obtain ⟨t0, hx⟩ := exo_at I.hok hE
  obtain ⟨m, hns, hloc⟩ := I.loc
  obtain ⟨u, ru, lk⟩ := hloc 0 ar.arg (.ref a) (by rw [hXN]; exact h0) hs (.inl (by rw [hXe]; exact hka))
  obtain rfl : u = Value.ref a := ru
  have hself : m ar.arg = some (.ref a) := by
    rcases lk with ⟨_, e⟩ | ⟨k, _⟩
    · exact e
    · have k : scope.names.lookup ar.arg = some .cell ∨ scope.names.lookup ar.arg = some .free := by rw [hXe] at k; exact k
      rw [hka] at k
      rcases k with k | k <;> cases k
  obtain ⟨mb, nb, hb⟩ := I.mod.blt
  have hglob : s.heap.Ns mainGlobals mg := hXm ▸ I.mod.glob.keeps I.bk
  have hblt : s.heap.Ns builtinsNs mb := nb.keeps I.bk
  have hL : X.env.locals = s0.heap.objs.size := by rw [hXe]
  have EA : starEach (e1 :: es) (PySem.W.ksEnv qual scope s0.heap.objs.size f (.ref cda) cc) = (false, eval e1 X.env) :: starEach es X.env := by rw [← hXe]; exact hst
  have hev : eval (.Call (.Attribute (.Call (.Name "super" p0) [] [] p1) "__init__" p2) (e1 :: es) [] p3) (PySem.W.ksEnv qual scope s0.heap.objs.size f (.ref cda) cc) = (do
      let ov ← attributeBase (.Call (.Name "super" p0) [] [] p1) "__init__" (PySem.W.ksEnv qual scope s0.heap.objs.size f (.ref cda) cc) (eval (.Call (.Name "super" p0) [] [] p1) (PySem.W.ksEnv qual scope s0.heap.objs.size f (.ref cda) cc))
      standAt p2.atName
      let (fx, first) ← holding [ov] (getMethod ov "__init__" (do return (← importBound (.Call (.Name "super" p0) [] [] p1) (PySem.W.ksEnv qual scope s0.heap.objs.size f (.ref cda) cc)).getD true))
      callWith p3 fx first (backTo p3 (starEach (e1 :: es) (PySem.W.ksEnv qual scope s0.heap.objs.size f (.ref cda) cc))) []) := by
    rw [hXe] at hfew
    show (do
      let ov ← attributeBase (.Call (.Name "super" p0) [] [] p1) "__init__" (PySem.W.ksEnv qual scope s0.heap.objs.size f (.ref cda) cc) (eval (.Call (.Name "super" p0) [] [] p1) (PySem.W.ksEnv qual scope s0.heap.objs.size f (.ref cda) cc))
      standAt p2.atName
      methodCall (.Call (.Name "super" p0) [] [] p1) "__init__" p2 p3 (PySem.W.ksEnv qual scope s0.heap.objs.size f (.ref cda) cc) ov ((e1 :: es).length + 0) (backTo p3 (starEach (e1 :: es) (PySem.W.ksEnv qual scope s0.heap.objs.size f (.ref cda) cc))) []) = _
    unfold methodCall calleeOf methodCallPos
    rw [hfew, hl]
    rfl
  have hin : interactive (PySem.W.ksEnv qual scope s0.heap.objs.size f (.ref cda) cc) = false := by
    show (scope.kind == .module && _) = false
    rw [hkf]
    rfl
  rw [hXe]
  refine PySem.ks_wpAt_Expr_any (PySem.ks_wpAt_MethodCall (pl := _) ?_ hev) hin (by rfl)
  refine PySem.ks_wpAt_super_base hks hkc (by decide) rfl (KI _ _ lf) rfl hp rfl (KI _ _ lcd) rfl hvs hfile htop ?_
  refine PySem.W.ks_loadName_global hkf hks (PySem.Calls.loadGlobal_builtin hglob hsu hblt ((hb _ (by decide +kernel)).trans PyProof.Rows.Boot.«super») ⟨rfl, ?_⟩)
  refine wpAny_loadName_free hkf hkc rfl ⟨_, KI _ _ lc, rfl⟩ ?_
  refine wpAny_loadName_local hkf hka (hL ▸ hns) hself ?_
  refine PySem.ks_wpAny_isType_cls hD1 hD2 ⟨rfl, ?_⟩
  obtain ⟨hp, g, d, t, os⟩ := s
  refine PySem.ks_wpAny_call_super hD1 hD2 hx rfl (fun c e => by cases e) (PySem.W.looks_mroIn KI T.own) (fun h1 e1' k1 => ?_)
  have I1 : Inv X [] σ H ⟨h1, g, d, t, os⟩ := I.kept (t' := t) k1
  have KI1 : K.In h1 := hXK ▸ I1.kIn
  have hsup := T.sup
  unfold PySem.W.ks_superIn at hsup
  rw [hcd] at hsup
  refine PySem.W.kxs_getMethod PySem.W.kxs_ValueError e1' (PySem.W.looks_opaque KI1 T.st) (l₀ := cdC.mro) (fun A Q E s k q => wpAny_bind ((PySem.W.looks_clsIn KI1 hcd) A _ E s k (wpAny_pure q))) rfl KI1 hsup
    (PySem.W.Looks.andThen (PySem.W.InstAt.type (od := none) ⟨k1 _ _ hx, rfl, rfl, trivial⟩) (PySem.W.looks_subIn KI1 T.ve)) (fun z => ?_) (by decide) ?_
  · rw [z] at hx
    rw [hD1] at hx
    cases hx
    cases hD2
  have I2 : Inv X [] σ H ⟨h1.push (PySem.W.kxs_mw "ValueError.__init__" a), g, d, t + 1, os⟩ := I1.kept (t' := t + 1) fun b o q => Heap.get?_push_of_some _ q
  have I3 : Inv X [(h1.objs.size, PySem.W.kxs_mw "ValueError.__init__" a)] σ H ⟨h1.push (PySem.W.kxs_mw "ValueError.__init__" a), g, d, t + 1, os⟩ := by
    refine I2.pins_of fun p hp => ?_
    obtain rfl : p = (h1.objs.size, PySem.W.kxs_mw "ValueError.__init__" a) := by simpa using hp
    exact ⟨Heap.get?_push_at rfl rfl, I1.hok.fresh (Nat.le_refl _), Nat.ne_of_gt I1.lt, I1.nofs (Nat.le_refl _), fun v z => by cases z⟩
  show wpAny _ _ (callWith p3 (Value.ref h1.objs.size) [] (backTo p3 (starEach (e1 :: es) _)) []) _ _ _
  have EB : backTo p3 (starEach (e1 :: es) (PySem.W.ksEnv qual scope s0.heap.objs.size f (.ref cda) cc)) = backTo p3 (starEach (e1 :: es) X.env) := by rw [hXe]
  rw [EB]
  have plain : (backTo p3 (starEach (e1 :: es) X.env)).any (·.1) = false := by
    rw [hst]
    show (false || (backTo p3 (starEach es X.env)).any (·.1)) = false
    rw [hpl]
    rfl
  refine PySem.W.kxs_callWith (i := "ValueError.__init__") (x := a) plain ?_
  rw [hst]
  refine PySem.Calls.evalArgs_plain ?_
  show wpAny _ _ (spliced (backTo p3 ((false, eval e1 X.env) :: starEach es X.env))) _ _ _
  rw [← hst]
  subst hXP hXw
  refine wpAny_mono (ha.run p3 _ _ σ H _ (I3.tok (t + 1)) hta) (fun us s3 hh => ?_) fun e s hh => hEX e s hh
  obtain ⟨vs, H3, I4, r3, hl3, rfl⟩ := hh
  obtain ⟨hu, _⟩ := I4.pin _ (List.mem_append_right _ List.mem_cons_self)
  obtain ⟨nm, q, N, bs, bm, sn, sub, ab, col, dd, k0, k1', k2, k3, k5, hC, hbm⟩ := T.ox.cls
  obtain ⟨t3, hx3⟩ := exo_at I4.hok hE
  refine ⟨hu, ?_⟩
  have hlen : us.length ≤ sizeLine := by
    rw [← Paired.length r3, sizeLine_eq]
    omega
  obtain ⟨h3, g3, d3, tk3, os3⟩ := s3
  refine call_mw ((hXK ▸ I4.kIn : K.In h3) _ _ hC) hx3 hu hlen fun h' t2 k hx' => ?_
  have J := I4.write (t' := tk3) (x := a) (e := a) (o := exo a C none) (by rw [hE]; exact True.intro) (.inl rfl) k ⟨_, hx'⟩ (exo_ok hx')
  have eu : upd H3 a (exo a C none) = H3 := by
    funext b
    by_cases hb : b = a
    · rw [hb, upd_same, hE]
    · rw [upd_ne hb]
  rw [eu] at J
  exact hq _ (J.pins_of fun p hp => absurd hp (by simp))
end
end Rf

set_option Elab.async false
set_option maxRecDepth 100000
set_option maxHeartbeats 2000000
/-! Rf, part Xc: an own exception with fields, made. -/
namespace Rf
open PySem PySem.Spec PyProof.Rows L2

/-- self.f = f, for each f -/
def nmB (y : Str) : Expr → Bool
  | .Name x _ => decide (x = y)
  | _ => false
def atB (sf f : Str) : Expr → Bool
  | .Attribute e g _ => decide (g = f) && nmB sf e
  | _ => false
def stS (sf f : Str) : Stmt → Bool
  | .Assign ts e _ => (match ts with
    | [tg] => atB sf f tg && nmB f e
    | _ => false)
  | _ => false
def stB (sf : Str) : List Str → List Stmt → Bool
  | [], ss => ss.isEmpty
  | f :: r, ss => (match ss with
    | s :: sr => stS sf f s && stB sf r sr
    | [] => false)
theorem nmB_ok {y : Str} {e : Expr} (h : nmB y e = true) : ∃ p, e = .Name y p := by
  unfold nmB at h
  split at h
  · rw [of_decide_eq_true h]
    exact ⟨_, rfl⟩
  · cases h
theorem atB_ok {sf f : Str} {e : Expr} (h : atB sf f e = true) : ∃ p q, e = .Attribute (.Name sf p) f q := by
  unfold atB at h
  split at h
  · obtain ⟨h1, h2⟩ := Bool.and_eq_true_iff.mp h
    obtain ⟨p, rfl⟩ := nmB_ok h2
    rw [of_decide_eq_true h1]
    exact ⟨_, _, rfl⟩
  · cases h
theorem stS_ok {sf f : Str} {s : Stmt} (h : stS sf f s = true) : ∃ p q r pos, s = .Assign [.Attribute (.Name sf p) f q] (.Name f r) pos := by
  unfold stS at h
  split at h
  · split at h
    · obtain ⟨h1, h2⟩ := Bool.and_eq_true_iff.mp h
      obtain ⟨p, q, rfl⟩ := atB_ok h1
      obtain ⟨r, rfl⟩ := nmB_ok h2
      exact ⟨_, _, _, _, rfl⟩
    · cases h
  · cases h
theorem stB_cons {sf f : Str} {r : List Str} {ss : List Stmt} (h : stB sf (f :: r) ss = true) : ∃ p q r' pos sr, ss = .Assign [.Attribute (.Name sf p) f q] (.Name f r') pos :: sr ∧ stB sf r sr = true := by
  unfold stB at h
  split at h
  · obtain ⟨h1, h2⟩ := Bool.and_eq_true_iff.mp h
    obtain ⟨p, q, r', pos, rfl⟩ := stS_ok h1
    exact ⟨_, _, _, _, _, rfl, h2⟩
  · cases h
theorem zip_rev {α β : Type} (a : α) (b : β) (l : List α) (m : List β) (r : List (α × β)) : (l.zip m).reverse ++ ((a, b) :: r) = ((a :: l).zip (b :: m)).reverse ++ r := by simp
section
variable {X : Cx}
theorem st_old {sf : Str} {C : Addr} (T : OexC X.K C) (nd : X.N.Nodup) (h0 : X.N[0]? = some sf) (hsl : Vis X.env.scope sf) (hds : (sf == ("__debug__" : Str)) = false) (hcs : (sf == ("__classdict__" : Str)) = false) {Dn : Ends} :
    ∀ (fs : List Str) (ss : List Stmt) (xs : List V) (σ : L2.St) (H : Hp) (a dx : Addr) (done : List (Str × V)) (s : Shared), stB sf fs ss = true → (∀ f ∈ fs, Vis X.env.scope f ∧ (f == ("__debug__" : Str)) = false ∧ (f == ("__classdict__" : Str)) = false ∧ PySem.W.findIn X.K (.ref C) f = some none) → xs.length = fs.length →
      (∀ (j : Nat) (f : Str) (x : V), fs[j]? = some f → xs[j]? = some x → ∃ i : Nat, X.N[i]? = some f ∧ σ[i]? = some (some x)) → σ[0]? = some (some (V.ref a)) → done.length + fs.length ≤ 900 → H a = some (exo a C (some dx)) → H dx = some (exd dx done) → Inv X [] σ H s →
      Dn.nx σ (upd H dx (exd dx ((fs.zip xs).reverse ++ done))) → wpAny (model X.prog X.w) X.A (execs ss X.env) (SP X [] Dn) X.xe s := by
  intro fs
  induction fs with
  | nil =>
    intro ss xs σ H a dx done s hb _ _ _ _ _ ha hd I q
    unfold stB at hb
    have e0 : ss = [] := by
      cases ss with
      | nil => rfl
      | cons _ _ => cases hb
    subst e0
    have e : upd H dx (exd dx ((([] : List Str).zip xs).reverse ++ done)) = H := by
      funext b
      by_cases hb : b = dx
      · rw [hb, upd_same, hd]
        simp
      · rw [upd_ne hb]
    rw [e] at q
    exact wpAny_execs_nil ⟨σ, H, I, q⟩
  | cons x r ih =>
    intro ss xs σ H a dx done s hb hv hl hx hs hn ha hd I q
    obtain ⟨p1, p2, p3, pos, ss', rfl, hb'⟩ := stB_cons hb
    cases xs with
    | nil => cases hl
    | cons y ys =>
      obtain ⟨i, hi, hy⟩ := hx 0 x y rfl rfl
      obtain ⟨hvx, hdx, hcx, hno⟩ := hv x List.mem_cons_self
      have ne : dx ≠ a := fun z => by
        rw [z, ha] at hd
        have z2 := Option.some.inj hd
        obtain ⟨t1, e1⟩ := exo_at I.hok ha
        obtain ⟨mA, ⟨o, es, ep, e2, e3, _⟩, _⟩ := exd_at (dx := a) (fs := done) I.hok (by rw [ha, z2])
        rw [e1] at e2
        cases e2
        cases e3
      have st : PS X (.Assign [.Attribute (.Name sf p1) x p2] (.Name x p3) pos) (tOst X.K x (tVar 0) (tVar i)) := ps_ost (pe_var h0 hsl hds hcs) (pe_var hi hvx hdx hcx)
      refine wpAny_execs_cons (wpAny_mono (st.run [] s σ H { nx := fun σ' H' => σ' = σ ∧ H' = upd H dx (exd dx ((x, y) :: done)), rt := fun _ _ => False } I ⟨y, hy, .ref a, hs, a, C, rfl, T, hno, .inr ⟨dx, done, ha, hd, by simp at hn; omega, rfl, rfl⟩⟩) (fun fl s' hq => ?_) fun _ _ z => z)
      cases fl with
      | next =>
        obtain ⟨σ', H', I', rfl, rfl⟩ := hq
        refine ih ss' ys σ' _ a dx ((x, y) :: done) s' hb' (fun f hf => hv f (List.mem_cons_of_mem _ hf)) (by simpa using hl) (fun j f z e1 e2 => hx (j + 1) f z (by simpa using e1) (by simpa using e2)) hs (by simp at hn ⊢; omega) (by rw [upd_ne (Ne.symm ne)]; exact ha) upd_same I' ?_
        rw [upd_upd, zip_rev]
        exact q
      | brk => obtain ⟨_, _, _, z⟩ := hq; exact z.elim
      | cont => obtain ⟨_, _, _, z⟩ := hq; exact z.elim
      | ret u => obtain ⟨_, _, _, _, _, z⟩ := hq; exact z.elim
/-- the first field, then the others -/
theorem st_all {sf : Str} {C : Addr} (T : OexC X.K C) (nd : X.N.Nodup) (h0 : X.N[0]? = some sf) (hsl : Vis X.env.scope sf) (hds : (sf == ("__debug__" : Str)) = false) (hcs : (sf == ("__classdict__" : Str)) = false) {Dn : Ends}
    {x : Str} {r : List Str} {ss : List Stmt} {xs : List V} {σ : L2.St} {H : Hp} {a : Addr} {s : Shared} (hb : stB sf (x :: r) ss = true) (hv : ∀ f ∈ x :: r, Vis X.env.scope f ∧ (f == ("__debug__" : Str)) = false ∧ (f == ("__classdict__" : Str)) = false ∧ PySem.W.findIn X.K (.ref C) f = some none) (hl : xs.length = (x :: r).length)
    (hx : ∀ (j : Nat) (f : Str) (y : V), (x :: r)[j]? = some f → xs[j]? = some y → ∃ i : Nat, X.N[i]? = some f ∧ σ[i]? = some (some y)) (hs : σ[0]? = some (some (V.ref a))) (hn : (x :: r).length ≤ 900) (ha : H a = some (exo a C none)) (I : Inv X [] σ H s)
    (q : ∀ dx, H dx = none → dx ≠ a → Dn.nx σ (upd (upd H dx (exd dx ((x :: r).zip xs).reverse)) a (exo a C (some dx)))) : wpAny (model X.prog X.w) X.A (execs ss X.env) (SP X [] Dn) X.xe s := by
  obtain ⟨p1, p2, p3, pos, ss', rfl, hb'⟩ := stB_cons hb
  cases xs with
  | nil => cases hl
  | cons y ys =>
    obtain ⟨i, hi, hy⟩ := hx 0 x y rfl rfl
    obtain ⟨hvx, hdx, hcx, hno⟩ := hv x List.mem_cons_self
    have st : PS X (.Assign [.Attribute (.Name sf p1) x p2] (.Name x p3) pos) (tOst X.K x (tVar 0) (tVar i)) := ps_ost (pe_var h0 hsl hds hcs) (pe_var hi hvx hdx hcx)
    refine wpAny_execs_cons (wpAny_mono (st.run [] s σ H { nx := fun σ' H' => σ' = σ ∧ ∃ dx, H dx = none ∧ dx ≠ a ∧ H' = upd (upd H dx (exd dx [(x, y)])) a (exo a C (some dx)), rt := fun _ _ => False } I ⟨y, hy, .ref a, hs, a, C, rfl, T, hno, .inl ⟨ha, fun dx h1 h2 => ⟨rfl, dx, h1, h2, rfl⟩⟩⟩) (fun fl s' hq => ?_) fun _ _ z => z)
    cases fl with
    | next =>
      obtain ⟨σ', H', I', rfl, dx, h1, h2, rfl⟩ := hq
      refine st_old T nd h0 hsl hds hcs r ss' ys σ' _ a dx [(x, y)] s' hb' (fun f hf => hv f (List.mem_cons_of_mem _ hf)) (by simpa using hl) (fun j f z e1 e2 => hx (j + 1) f z (by simpa using e1) (by simpa using e2)) hs (by simp at hn ⊢; omega) upd_same (by rw [upd_ne h2, upd_same]) I' ?_
      have e : ∀ L : List (Str × V), upd (upd (upd H dx (exd dx [(x, y)])) a (exo a C (some dx))) dx (exd dx L) = upd (upd H dx (exd dx L)) a (exo a C (some dx)) := fun L => by
        funext b
        by_cases hb : b = dx
        · rw [hb, upd_same, upd_ne h2, upd_same]
        · by_cases hc : b = a
          · rw [hc, upd_ne (Ne.symm h2), upd_same, upd_same]
          · rw [upd_ne hb, upd_ne hc, upd_ne hb, upd_ne hc, upd_ne hb]
      rw [e, zip_rev, List.append_nil]
      exact q dx h1 h2
    | brk => obtain ⟨_, _, _, z⟩ := hq; exact z.elim
    | cont => obtain ⟨_, _, _, z⟩ := hq; exact z.elim
    | ret u => obtain ⟨_, _, _, _, _, z⟩ := hq; exact z.elim
end
/-- names as arguments -/
def nmsB : List Str → List Expr → Bool
  | [], es => es.isEmpty
  | f :: r, es => (match es with
    | e :: er => nmB f e && nmsB r er
    | [] => false)
theorem pa_names {X : Cx} : ∀ (fs : List Str) (es : List Expr), nmsB fs es = true → (∀ f ∈ fs, Vis X.env.scope f ∧ (f == ("__debug__" : Str)) = false ∧ (f == ("__classdict__" : Str)) = false) →
    PA X es (fun σ H Q => ∃ vs : List V, vs.length = fs.length ∧ (∀ (j : Nat) (f : Str), fs[j]? = some f → ∃ (i : Nat) (v : V), X.N[i]? = some f ∧ vs[j]? = some v ∧ σ[i]? = some (some v)) ∧ Q vs H) ∧ (starEach es X.env).all (fun x => !x.1) = true ∧ (starEach es X.env).length = es.length := by
  intro fs
  induction fs with
  | nil =>
    intro es hb _
    unfold nmsB at hb
    cases es with
    | nil =>
      refine ⟨⟨fun pos pins s σ H Q I ⟨vs, hl, _, q⟩ => ?_⟩, rfl, rfl⟩
      cases vs with
      | nil => exact (pa_nil (X := X)).run pos pins s σ H Q I q
      | cons _ _ => cases hl
    | cons _ _ => cases hb
  | cons f r ih =>
    intro es hb hv
    unfold nmsB at hb
    cases es with
    | nil => cases hb
    | cons e er =>
      obtain ⟨h1, h2⟩ := Bool.and_eq_true_iff.mp (show (nmB f e && nmsB r er) = true from hb)
      obtain ⟨p, rfl⟩ := nmB_ok h1
      obtain ⟨ih1, ih2, ih3⟩ := ih er h2 fun g hg => hv g (List.mem_cons_of_mem _ hg)
      obtain ⟨v1, v2, v3⟩ := hv f List.mem_cons_self
      have st : starEach (.Name f p :: er) X.env = (false, eval (.Name f p) X.env) :: starEach er X.env := rfl
      refine ⟨⟨fun pos pins s σ H Q I ⟨vs, hl, hx, q⟩ => ?_⟩, ?_, ?_⟩
      · cases vs with
        | nil => cases hl
        | cons v vr =>
          obtain ⟨i, v', e1, e2, e3⟩ := hx 0 f rfl
          cases e2
          refine (pa_cons (pe_var e1 v1 v2 v3) ih1).run pos pins s σ H Q I ⟨v, e3, vr, by simpa using hl, fun j g hj => ?_, q⟩
          obtain ⟨i', w, e4, e5, e6⟩ := hx (j + 1) g (by simpa using hj)
          exact ⟨i', w, e4, by simpa using e5, e6⟩
      · rw [st, List.all_cons, ih2]
        rfl
      · rw [st, List.length_cons, ih3, List.length_cons]
end Rf

set_option Elab.async false
set_option maxRecDepth 100000
set_option maxHeartbeats 2000000
/-! Rf, part Xd: an own __init__'s promise; C(e, ..) of such a class. -/
namespace Rf
open PySem PySem.Spec PyProof.Rows L2

def supB : Expr → Bool
  | .Call f as ks _ => nmB "super" f && (as.isEmpty && ks.isEmpty)
  | _ => false
def supA (fs : List Str) : Expr → Bool
  | .Call f as ks p => ks.isEmpty && (nmsB fs as && (match f with
    | .Attribute e n q => supB e && (decide (n = "__init__") && (q.endLine == p.line))
    | _ => false))
  | _ => false
def iniB (sf : Str) (fs : List Str) : List Stmt → Bool
  | s :: sr => stB sf fs sr && (match s with
    | .Expr e _ => supA fs e
    | _ => false)
  | [] => false
theorem emp {α : Type} {l : List α} (h : l.isEmpty = true) : l = [] := by
  cases l with
  | nil => rfl
  | cons _ _ => cases h
theorem supB_ok {e : Expr} (h : supB e = true) : ∃ p0 p1, e = .Call (.Name "super" p0) [] [] p1 := by
  unfold supB at h
  split at h
  · obtain ⟨h1, h2⟩ := Bool.and_eq_true_iff.mp h
    obtain ⟨h3, h4⟩ := Bool.and_eq_true_iff.mp h2
    obtain ⟨p, rfl⟩ := nmB_ok h1
    rw [emp h3, emp h4]
    exact ⟨_, _, rfl⟩
  · cases h
theorem supA_ok {fs : List Str} {e : Expr} (h : supA fs e = true) : ∃ p0 p1 p2 as p3, e = .Call (.Attribute (.Call (.Name "super" p0) [] [] p1) "__init__" p2) as [] p3 ∧ nmsB fs as = true ∧ (p2.endLine == p3.line) = true := by
  unfold supA at h
  split at h
  · obtain ⟨h1, h2⟩ := Bool.and_eq_true_iff.mp h
    obtain ⟨h3, h4⟩ := Bool.and_eq_true_iff.mp h2
    split at h4
    · obtain ⟨h5, h6⟩ := Bool.and_eq_true_iff.mp h4
      obtain ⟨h7, h8⟩ := Bool.and_eq_true_iff.mp h6
      obtain ⟨p0, p1, rfl⟩ := supB_ok h5
      rw [emp h1, of_decide_eq_true h7]
      exact ⟨_, _, _, _, _, rfl, h3, h8⟩
    · cases h4
  · cases h
theorem iniB_ok {sf : Str} {fs : List Str} {b : List Stmt} (h : iniB sf fs b = true) : ∃ p0 p1 p2 as p3 pos sr, b = .Expr (.Call (.Attribute (.Call (.Name "super" p0) [] [] p1) "__init__" p2) as [] p3) pos :: sr ∧ nmsB fs as = true ∧ (p2.endLine == p3.line) = true ∧ stB sf fs sr = true := by
  unfold iniB at h
  split at h
  · obtain ⟨h1, h2⟩ := Bool.and_eq_true_iff.mp h
    split at h2
    · obtain ⟨p0, p1, p2, as, p3, rfl, h3, h4⟩ := supA_ok h2
      exact ⟨_, _, _, _, _, _, _, rfl, h3, h4, h1⟩
    · cases h2
  · cases h
theorem nmsB_len : ∀ {fs : List Str} {es : List Expr}, nmsB fs es = true → es.length = fs.length
  | [], es, h => by
    unfold nmsB at h
    rw [emp h]
    rfl
  | f :: r, [], h => by cases h
  | f :: r, e :: er, h => by
    obtain ⟨h1, h2⟩ := Bool.and_eq_true_iff.mp (show (nmB f e && nmsB r er) = true from h)
    rw [List.length_cons, List.length_cons, nmsB_len h2]
/-- what such an __init__ does -/
def spI (C : Addr) (fs : List Str) : Sp := fun vs H Q _ => ∃ (a : Addr) (xs : List V), vs = .ref a :: xs ∧ xs.length = fs.length ∧ H a = some (exo a C none) ∧ ∀ dx, H dx = none → dx ≠ a → Q .non (upd (upd H dx (exd dx (fs.zip xs).reverse)) a (exo a C (some dx)))
/-- the scope of such an __init__ -/
structure IniScope (sf : Str) (fs : List Str) (sc : Scope) : Prop where
  kind : sc.kind = .function
  co : sc.isCoroutine = false
  gen : sc.isGenerator = false
  nd : (sf :: fs).Nodup
  loc : ∀ x ∈ sf :: fs, sc.names.lookup x = some .local ∧ (x == ("__debug__" : Str)) = false ∧ (x == ("__classdict__" : Str)) = false
  names : ∀ y ∈ sc.names, y.2 ≠ .cell ∧ (y.2 = .free → y.1 = "__class__")
  sup : sc.names.lookup ("super" : Str) = some .globalImplicit
  cls : sc.names.lookup ("__class__" : Str) = some .free
theorem plain_all {X : Cx} {p : Pos} : ∀ {l : List (Bool × Sem Value)}, l.all (fun x => !x.1) = true → (backTo p l).any (·.1) = false
  | [], _ => rfl
  | (b, t) :: l, h => by
    obtain ⟨h1, h2⟩ := Bool.and_eq_true_iff.mp (show ((!b) && l.all fun x => !x.1) = true from h)
    have hb : b = false := by simpa using h1
    subst hb
    show (false || (backTo p l).any (·.1)) = false
    rw [plain_all (X := X) h2]
    rfl
theorem all_back {X : Cx} {p : Pos} : ∀ {l : List (Bool × Sem Value)}, l.all (fun x => !x.1) = true → (backTo p l).all (fun x => !x.1) = true
  | [], _ => rfl
  | (b, t) :: l, h => by
    obtain ⟨h1, h2⟩ := Bool.and_eq_true_iff.mp (show ((!b) && l.all fun x => !x.1) = true from h)
    have hb : b = false := by simpa using h1
    subst hb
    show (true && (backTo p l).all fun x => !x.1) = true
    rw [all_back (X := X) h2]
    rfl
theorem fn_init {CT : CXT} {P : Program} {w : World} {K : PySem.W.Frag} {mg : Str → Option Value} {base : Heap} {k : Nat} {f C cc cda : Addr} {qual file : Str} {params : Arguments} {body : List Stmt} {scope : Scope} {dV kV doc pm ct oc : Value} {an od : Option Addr} {osl : Array (Option Value)} {sf : Str} {x : Str} {r : List Str}
    (T : IexC K C f cc cda file) (lk : K.lookup f = some ⟨oc, od, .func (PySem.W.ksFn "__init__" qual params body scope dV kV doc pm an (.ref cda) ct cc), osl⟩) (hcd : PySem.W.codeIn K (.ref cda) qual = true) (S : IniScope sf (x :: r) scope) (hb : iniB sf (x :: r) body = true) (few : (x :: r).length < 29)
    (hp : (params.posonlyargs ++ params.args).head?.map (·.arg) = some sf) (hfile : ((P.main.file : Str) == file) = true) (htop : (P.main.scope.names.lookup ("super" : Str)).isSome = false) (hsu : mg "super" = none) (hno : ∀ g ∈ x :: r, PySem.W.findIn K (.ref C) g = some none) :
    FnOk P w K mg base CT (k + 1) f (PySem.W.ksFn "__init__" qual params body scope dV kV doc pm an (.ref cda) ct cc) (sf :: x :: r) (spI C (x :: r)) := by
  refine ⟨fun vs H Q E ⟨a, xs, e, l, _⟩ => by rw [e, List.length_cons, l]; rfl, fun A outer s H args us vs Q E hr e0 bnd rv hsp => ?_⟩
  obtain ⟨a, xs, rfl, hl, hE, hQ⟩ := hsp
  have KX : K.In s.heap := e0.mod.kin.keeps fun b o e => (e0.bs b o e).1
  have lim : s.heap.NoLimit := e0.mod.nolimit.keeps fun b o e => (e0.bs b o e).1
  obtain ⟨cl, cld, csl, lc⟩ := T.cell
  obtain ⟨ar, har, hsf⟩ := Option.map_eq_some_iff.mp hp
  obtain ⟨p0, p1, p2, as, p3, pos, sr, rfl, hnm, hpl, hst⟩ := iniB_ok hb
  refine PySem.ks_codeAny_call_defAt (body := _) (binds := (sf :: x :: r).zip us) hr.depth (KX _ _ lk) rfl lim (PySem.W.codeRec_of KX hcd) rfl bnd (fun y hy => (S.names y hy).1) (fun y hy => (S.loc y.1 (List.of_mem_zip (show (y.1, y.2) ∈ (sf :: x :: r).zip us from hy)).1).1) (fun h0 hns hk => ?_) S.co S.gen S.kind
  have hv : (V.ref a :: xs).length = (sf :: x :: r).length := by rw [List.length_cons, hl]; rfl
  obtain ⟨X, hX⟩ : ∃ X, X = cxI CT P w K mg base (sf :: x :: r) qual scope f (.ref cda) cc A outer s H E := ⟨_, rfl⟩
  have I : Inv X [] ((V.ref a :: xs).map some) H { s with heap := h0, toks := s.toks + ((sf :: x :: r).zip us).length } := by
    rw [hX]
    exact inv_init (CT := CT) S.kind S.nd (fun y hy => (S.loc y hy).1) (fun y z e => by
      have m := PySem.mem_of_lookup e
      exact ⟨fun z' => (S.names _ m).1 (by rw [← z']), fun z' => (S.names _ m).2 z'⟩) lc hr.hd e0 hv rv hns hk
  have hXe : X.env = PySem.W.ksEnv qual scope s.heap.objs.size f (.ref cda) cc := by rw [hX]; rfl
  have hXA : X.A = A.deeper (PySem.W.ksEnv qual scope s.heap.objs.size f (.ref cda) cc) := by rw [hX]; rfl
  have hXN : X.N = sf :: x :: r := by rw [hX]; rfl
  have hXP : X.prog = P := by rw [hX]; rfl
  have hXw : X.w = w := by rw [hX]; rfl
  have hXK : X.K = K := by rw [hX]; rfl
  have vis : ∀ y ∈ sf :: x :: r, Vis X.env.scope y ∧ (y == ("__debug__" : Str)) = false ∧ (y == ("__classdict__" : Str)) = false := fun y hy => by
    rw [hXe]
    exact ⟨.inl (S.loc y hy).1, (S.loc y hy).2⟩
  obtain ⟨pa, q1, q2⟩ := pa_names (X := X) (x :: r) as hnm fun y hy => vis y (List.mem_cons_of_mem _ hy)
  have slot : ∀ (j : Nat) (g : Str) (y : V), (x :: r)[j]? = some g → xs[j]? = some y → ∃ i : Nat, X.N[i]? = some g ∧ ((V.ref a :: xs).map some)[i]? = some (some y) := fun j g y e1 e2 => ⟨j + 1, by rw [hXN]; simpa using e1, by simpa using e2⟩
  have hla := nmsB_len hnm
  show _root_.PySem.wpAt (model P w) (A.deeper (PySem.W.ksEnv qual scope s.heap.objs.size f (.ref cda) cc)) (.func (.Expr (.Call (.Attribute (.Call (.Name "super" p0) [] [] p1) "__init__" p2) as [] p3) pos :: sr) (PySem.W.ksEnv qual scope s.heap.objs.size f (.ref cda) cc)) (execs (.Expr (.Call (.Attribute (.Call (.Name "super" p0) [] [] p1) "__init__" p2) as [] p3) pos :: sr) (PySem.W.ksEnv qual scope s.heap.objs.size f (.ref cda) cc)) _ _ _
  rw [← hXA, ← hXe]
  refine PySem.ks_wpAt_execs_cons ?_
  cases as with
  | nil => cases hla
  | cons e1 es =>
    have st1 : starEach (e1 :: es) X.env = (false, eval e1 X.env) :: starEach es X.env := by
      obtain ⟨g1, _⟩ := Bool.and_eq_true_iff.mp (show (nmB x e1 && nmsB r es) = true from hnm)
      obtain ⟨p, rfl⟩ := nmB_ok g1
      rfl
    have q3 : (starEach es X.env).all (fun x => !x.1) = true := by
      rw [st1, List.all_cons] at q1
      exact (Bool.and_eq_true_iff.mp q1).2
    have hfew : methodCallForm ((e1 :: es).length + 0) (backTo p3 (starEach (e1 :: es) X.env)) [] = true := by
      unfold methodCallForm
      rw [all_back (X := X) q1, hla]
      simp only [List.all_nil, List.isEmpty_nil, if_true, Bool.and_true, Bool.true_and, decide_eq_true_eq]
      omega
    have hrest : ∀ s', Inv X [] ((V.ref a :: xs).map some) H s' → wpAny (model X.prog X.w) X.A (execs sr X.env) (SP X [] { nx := fun _ H' => Q .non H', rt := fun _ _ => False }) X.xe s' := fun s' I' =>
      st_all (C := C) (sf := sf) (by rw [hXK]; exact T.ox) (by rw [hXN]; exact S.nd) (by rw [hXN]; rfl) (vis sf List.mem_cons_self).1 (vis sf List.mem_cons_self).2.1 (vis sf List.mem_cons_self).2.2 hst
        (fun g hg => ⟨(vis g (List.mem_cons_of_mem _ hg)).1, (vis g (List.mem_cons_of_mem _ hg)).2.1, (vis g (List.mem_cons_of_mem _ hg)).2.2, by rw [hXK]; exact hno g hg⟩) hl slot rfl (by omega) hE I' hQ
    refine front hX T lk (ar := ar) har hfile htop S.sup S.cls (by rw [hsf]; exact (S.loc sf List.mem_cons_self).1) S.kind hsu (by rw [hsf]; rfl) (ta := _) pa hpl hfew st1 (plain_all (X := X) q3) I rfl hE ⟨xs, hl, fun j g hj => ?_, by rw [hl]; omega, rfl⟩ (fun e s' he => ?_) (fun s' I' => ?_)
    · obtain ⟨hj1, hj2⟩ := List.getElem?_eq_some_iff.mp hj
      obtain ⟨i, z1, z2⟩ := slot j g xs[j] hj (List.getElem?_eq_getElem (by rw [hl]; exact hj1))
      exact ⟨i, _, z1, List.getElem?_eq_getElem (by rw [hl]; exact hj1), z2⟩
    · rw [hX] at he
      exact he
    · have run := hrest s' I'
      rw [hXP, hXw] at run
      refine wpAt_of_wpAny (wpAny_mono run (fun fl s2 hq => ?_) fun e s2 he => ?_)
      · cases fl with
        | next =>
          obtain ⟨σ2, H2, J, q⟩ := hq
          rw [hX] at J
          exact ⟨.non, H2, J.os, J.bare, J.base, J.hok, rfl, q⟩
        | brk => obtain ⟨_, _, _, z⟩ := hq; exact z.elim
        | cont => obtain ⟨_, _, _, z⟩ := hq; exact z.elim
        | ret u => obtain ⟨_, _, _, _, _, z⟩ := hq; exact z.elim
      · rw [hX] at he
        exact he
/-- C(e, ..): its context is None -/
theorem pmk_oexN {X : Cx} {e : Expr} {es : List Expr} {p pos : Pos} {ta : TA} {CX : CXT} {x : Str} {C fI : Addr} {k : Nat} {fd : FuncData} {ps : List Str} {sp : Sp} {ds : List Value} {dvs : List V} (T : OexC X.K C) (iC : PySem.W.findIn X.K (.ref C) "__init__" = some (some (.ref fI))) (tI : PySem.W.typeIn X.K (.ref fI) = some (.type "function"))
    (F1 : FnOk X.prog X.w X.K X.mg X.base CX k fI fd ps sp) (hr : Room (k + 1) X.A) (hb : Binds X.K fd ps ds) (hd : Vals dvs ds) (hx : Passes CX X (fun _ _ _ => False)) (hg : Gl X x) (hm : X.mg x = some (.ref C)) (ha : PA X (e :: es) ta)
    (hdb : (x == ("__debug__" : Str)) = false) (he : starEach (e :: es) X.env = (false, eval e X.env) :: starEach es X.env) (hpl : (backTo pos (starEach es X.env)).any (·.1) = false) :
    L2N.PMk X (.Call (.Name x p) (e :: es) [] pos) (tMkO C sp dvs ta) := by
  intro pins s σ H Q I h
  obtain ⟨nm, q, N, bs, bm, sn, sub, ab, col, dd, k0, k1, k2, k3, k5, hC, hbm⟩ := T.cls
  refine wpAny_Call_Name_kw (ld_glob I hg hm ?_ hdb)
  refine PySem.W.callWith_K (h₀ := X.base) I.ok.mod.kin T.kC (thn (ha.run pos pins s σ H _ I h) fun us s1 ⟨vs, H1, I1, r1, hz, q1⟩ => ⟨I1.kIn, ?_⟩) he hpl
  show wpAny _ _ (PySem.call (.ref C) us) _ _ _
  obtain ⟨hp, g, dr, tk, os⟩ := s1
  have hsz : hp.objs.size ≤ hp.objs.size + 1 := Nat.le_succ _
  have hn : H1 (hp.objs.size + 1) = none := I1.hok.fresh hsz
  have hq := q1 (hp.objs.size + 1) hn
  have kk : ∀ b o, hp.get? b = some o → ((hp.push (PySem.W.kdv_tup us)).push (PySem.HandSPX.excO C hp.objs.size)).get? b = some o := fun b o e => Heap.get?_push_of_some _ (Heap.get?_push_of_some _ e)
  have hget : ((hp.push (PySem.W.kdv_tup us)).push (PySem.HandSPX.excO C hp.objs.size)).get? (hp.objs.size + 1) = some (PySem.HandSPX.excO C hp.objs.size) := by heap_get
  have I2 : Inv X pins σ (upd H1 (hp.objs.size + 1) (exo (hp.objs.size + 1) C none)) ⟨(hp.push (PySem.W.kdv_tup us)).push (PySem.HandSPX.excO C hp.objs.size), g, dr, tk, os⟩ :=
    I1.laid (t' := tk) (a := hp.objs.size + 1) (o := exo (hp.objs.size + 1) C none) (h' := (hp.push (PySem.W.kdv_tup us)).push (PySem.HandSPX.excO C hp.objs.size)) kk hsz (exo_ok hget)
  have r2 : Vals (V.ref (hp.objs.size + 1) :: (vs ++ dvs)) (Value.ref (hp.objs.size + 1) :: (us ++ ds)) := .cons rfl (r1.append hd)
  have hl : (Value.ref (hp.objs.size + 1) :: us ++ ds).length = ps.length := by
    have e := r2.length
    rw [F1.len _ _ _ _ hq] at e
    exact e.symm
  have hus : us.length ≤ sizeLine := by
    rw [← Paired.length r1, sizeLine_eq]
    omega
  refine wpAny_call (PySem.HandSPX.call_own F.excBase_ValueError (fun Y => PySem.HandSPX.refsVE_contains Y bm hbm) (I1.kIn _ _ hC) (PySem.W.looks_findIn I1.kIn iC) (fun self => PySem.W.bind_fn I1.kIn self tI) hus
    (codeAny_mono (F1.run _ X.stack _ _ ⟨Value.ref (hp.objs.size + 1) :: us, []⟩ (Value.ref (hp.objs.size + 1) :: (us ++ ds)) _ _ (fun _ _ _ => False) (hr.make C us []) (I2.env0.make C us []) (hb _ (Value.ref (hp.objs.size + 1) :: us) I2.kIn hl) r2 hq) fun r s' hq' => ?_))
  cases r with
  | error er => exact hx pins σ _ _ er s' I2 hq'
  | ok fl =>
    cases fl with
    | ret u =>
      obtain ⟨v, H2, os2, bare2, un2, hok2, rv, ev, d, fs, ea, ed, hd1, q2⟩ := hq'
      subst ev
      obtain ⟨h2, g2, d2, t2, os'⟩ := s'
      obtain ⟨t0, G, J, kG, ge, hoe, na⟩ := mk_end0 (d2 := d2) (t2 := t2) I1 hsz kk un2 hok2 os2 bare2 ea ed hd1
      refine ⟨rv, hp.objs.size + 1, _, _, ⟨G, g2, d2, t2, os'⟩, _, .ref C, some d, rfl, J, kG, ge, hoe, ⟨rfl, rfl, fun vs hv => ?_⟩, rfl, rfl, na, rfl, bare2, raises_own T.exC T.tyC, q2⟩
      cases hv
      rfl
    | next => exact False.elim hq'
    | brk => exact False.elim hq'
    | cont => exact False.elim hq'
/-- C(e, ..) -/
def tMkI (C : Addr) (fs : List Str) (ta : TA) : L2.St → Hp → XK → Prop := fun σ H Q => ta σ H fun vs H1 => vs.length = fs.length ∧ ∀ d, H1 d = none → Q (.ref C) (some d) (upd H1 d (.xd (fs.zip vs).reverse))
theorem pmk_init {X : Cx} {CT : CXT} {n : Str} {e : Expr} {es : List Expr} {p pos : Pos} {ta : TA} {C f cc cda : Addr} {file : Str} {k : Nat} {fd : FuncData} {ps fs : List Str} (T : IexC X.K C f cc cda file) (F1 : FnOk X.prog X.w X.K X.mg X.base CT k f fd ps (spI C fs)) (few : fs.length < 29)
    (hr : Room (k + 1) X.A) (hb : Binds X.K fd ps []) (hx : Passes CT X (fun _ _ _ => False)) (hg : Gl X n) (hm : X.mg n = some (.ref C)) (ha : PA X (e :: es) ta) (hdb : (n == ("__debug__" : Str)) = false) (he : starEach (e :: es) X.env = (false, eval e X.env) :: starEach es X.env) (hpl : (backTo pos (starEach es X.env)).any (·.1) = false) :
    L2N.PMk X (.Call (.Name n p) (e :: es) [] pos) (tMkI C fs ta) := by
  have pa' : PA X (e :: es) (fun σ H Q' => ∃ Q, ta σ H Q ∧ ∀ vs H', Q vs H' → Q' vs H') := ⟨fun pos pins s σ H Q' I ⟨Q, h, i⟩ => wpAny_mono (ha.run pos pins s σ H Q I h) (fun us s1 ⟨vs, H1, I1, r, q⟩ => ⟨vs, H1, I1, r, i _ _ q⟩) (fun _ _ z => z)⟩
  have base := pmk_oexN (dvs := []) T.ox T.init T.tf F1 hr hb .nil hx hg hm pa' hdb he hpl (p := p)
  intro pins s σ H Q I h
  refine base pins s σ H Q I ⟨_, h, fun vs H1 ⟨hl, q⟩ => ⟨by rw [hl]; omega, fun a na => ⟨a, vs ++ [], rfl, by rw [List.append_nil]; exact hl, upd_same, fun dx h1 h2 => ?_⟩⟩⟩
  have n1 : H1 dx = none := by rw [upd_ne h2] at h1; exact h1
  refine ⟨rfl, dx, (fs.zip vs).reverse, by rw [upd_same], by rw [List.append_nil, upd_ne h2, upd_same], n1, ?_⟩
  have e : upd (del (upd (upd (upd H1 a (exo a C none)) dx (exd dx (fs.zip (vs ++ [])).reverse)) a (exo a C (some dx))) a) dx (.xd (fs.zip vs).reverse) = upd H1 dx (.xd (fs.zip vs).reverse) := by
    funext b
    by_cases hb : b = dx
    · rw [hb, upd_same, upd_same]
    · rw [upd_ne hb, upd_ne hb]
      by_cases hc : b = a
      · rw [hc, del_same, na]
      · rw [del_ne hc, upd_ne hc, upd_ne hb, upd_ne hc]
  rw [e]
  exact q dx n1
end Rf

set_option Elab.async false
set_option maxRecDepth 100000
set_option maxHeartbeats 2000000
/-! Rf, part Xe: try with clauses, each with a name or without. -/
namespace Rf
open PySem PySem.Spec PyProof.Rows L2

/-- one clause: its class, the slot of its name, what its suite does -/
structure Hd where
  cls : Value
  at_ : Option Nat
  ts : Addr → Value → Option Addr → TS
def endsX : Option Nat → Ends → Ends
  | none, D => D
  | some i, D => { nx := fun τ G => D.nx (τ.set i none) G, rt := D.rt, bk := fun τ G => D.bk (τ.set i none) G, ct := fun τ G => D.ct (τ.set i none) G }
def slotX : Option Nat → Addr → L2.St → L2.St
  | none, _, τ => τ
  | some i, a, τ => τ.set i (some (.ref a))
/-- what the clauses wish of what is raised -/
def wX (K : PySem.W.Frag) (Wo : WX) (D : Ends) : List Hd → WX
  | [] => Wo
  | q :: r => fun cls d τ G => ∃ b, PySem.W.exmOne K cls q.cls = some b ∧ (b = true → ∀ a, G a = none → q.ts a cls d (endsX q.at_ D) (slotX q.at_ a τ) G) ∧ (b = false → wX K Wo D r cls d τ G)
def NmX (X : Cx) : Option Str → Option Nat → Prop
  | none, none => True
  | some n, some i => X.N[i]? = some n ∧ X.env.kindOf n = some .local
  | _, _ => False
inductive HdsX (X : Cx) : List ExceptHandler → List Hd → Prop
  | nil : HdsX X [] []
  | cons {x : Str} {q : Hd} {on : Option Str} {st : Stmt} {sr : List Stmt} {np hp : Pos} {hds : List ExceptHandler} {l : List Hd} (hc : Names X x q.cls) (hn : NmX X on q.at_)
      (hsu : ∀ (a : Addr) (oe : Obj) (cls : Value) (d : Option Addr) (pn : List (Addr × Obj)), L2N.Zn cls d oe → (∃ vs, oe.data = .fields vs) → PSs (X.suite a ((a, oe) :: pn)) (st :: sr) (q.ts a cls d)) (r : HdsX X hds l) :
      HdsX X (.ExceptHandler (some (.Name x np)) on (st :: sr) hp :: hds) (q :: l)
section
variable {X : Cx} {xs : List Stmt} {hd : ExceptHandler} {hds : List ExceptHandler} {l : List Hd} {pos : Pos} {tb : WX → TS} {Wo : WX}
/-- what is raised has landed here: the clauses are asked -/
theorem clauses (hs : X.stack = X.env :: X.outer) (hf : X.env.frame = some X.env.locals) (hN : X.N.Nodup) (tk : L2N.Takes X Wo) {D : Ends} {pins : List (Addr × Obj)} {a : Addr} {B : Heap} {sI : Shared} {τ : L2.St} {G : Hp} {cls : Value} {d : Option Addr} {h1 : Heap} {s1 : Shared} {oe : Obj} {vs : Array Value}
    (ok : X.Ok) (J : Inv X pins τ G sI) (nb : ∀ b o, sI.heap.get? b = some o → b ∉ frs X.stack → B.get? b = some o) (up : sI.heap.UpToSlots h1) (na : G a = none) (os : s1.os = sI.os) (ag : AllBare s1.gens)
    (fl : HandSPX.FlyingZ B (X.env :: X.outer) a (L2N.Zn cls d) h1) (J1 : Inv X pins τ G { s1 with heap := h1 }) (he : h1.get? a = some oe) (hz : L2N.Zn cls d oe) (hdt : oe.data = .fields vs) (nL : a ≠ X.env.locals) (nF : a ∉ X.fs) :
    ∀ {hds' : List ExceptHandler} {l' : List Hd}, HdsX X hds' l' → wX X.K Wo D l' cls d τ G → wpAny (model X.prog X.w) X.A (handleBy (.ref a) X.env hds') (SP X pins D) X.xe { s1 with heap := h1 } := by
  intro hds' l' hk
  induction hk with
  | nil =>
    intro w
    refine wpAny_handleBy_nil ?_
    obtain ⟨_, _, _, oe1, vs1, T, oT, ts1, g1, g2, g3, g4, g5⟩ := id fl
    unfold PySem.passOn
    refine wpAny_bind (wpAny_field g1 g3 g4 ?_)
    rw [if_neg (show ¬ ((Value.ref T == Value.none) = true) from by simp)]
    have out : wpAny (model X.prog X.w) X.A (setFlight (.ref a) X.env.frame) (fun _ s2 => wpAny (model X.prog X.w) X.A (throw (.ref a) : Sem Flow) (SP X pins D) X.xe s2) X.xe { s1 with heap := h1 } := by
      rw [hf]
      exact HandSPX.setFlight_upZ fl fun h2 hh2 up2 => wpAny_throw (tk _ _ ⟨a, B, sI, pins, τ, G, cls, d, rfl, J, nb, up.trans up2, .inr (.inr (by rw [hs]; exact hh2)), na, os, ag, w⟩)
    first
      | exact wpAny_bind (wpAny_pure (wpAny_bind out))
      | exact wpAny_bind out
  | @cons x q on st sr np hp hds2 l2 hc hn hsu r ih =>
    intro w
    obtain ⟨b, hb, yes, no⟩ := w
    have SJ := J1.suite he hdt na nL nF
    refine wpAny_handleBy_cons (codeAny_handlers_test ?_) (by intro z; cases z)
    have lt : PySem.W.Looks (model X.prog X.w) h1 (typeOf (.ref a)) cls := fun A1 Q1 E1 s k z => wpAny_typeOf_ref (k _ _ he) (by rw [hz.1]; exact z)
    have lm := PySem.W.exm_one (M := model X.prog X.w) J1.kIn lt hb
    have ask : ∀ {Q1 : Value → Shared → Prop} {E1 : Value → Shared → Prop}, Q1 q.cls { s1 with heap := h1 } → wpAny (model X.prog X.w) (X.A.mark (some (.ref a))) (eval (.Name x np) X.env) Q1 E1 { s1 with heap := h1 } := fun {Q1 E1} z => by
      obtain ⟨c1, c2, c3 | ⟨c3, c4, c5⟩⟩ := hc
      · exact ld_glob (X := X.suite a ((a, oe) :: (X.pn ++ pins))) SJ c1 c3 z c2
      · exact ld_blt (X := X.suite a ((a, oe) :: (X.pn ++ pins))) SJ c1 c3 c4 z c5 c2
    refine ask (lm.here ?_)
    cases b with
    | false =>
      show wpAny _ X.A (handleBy (.ref a) X.env hds2) _ _ _
      exact ih (no rfl)
    | true =>
      have y := yes rfl a na
      cases on with
      | none =>
        obtain ⟨qc, qa, qt⟩ := q
        cases qa with
        | some _ => exact hn.elim
        | none =>
          refine codeAny_handlers_suite (HandSPX.lands_againZ fl fun h2 fl2 up2 => ?_)
          have J2 : Inv X pins τ G { s1 with heap := h2 } := J.landed nb fl2.1 (up.trans up2) os ag
          obtain ⟨oe2, vs2, he2, hz2, hd2⟩ := fl2.there
          have S2 := J2.suite he2 hd2 na nL nF
          refine wpAny_mono ((hsu a oe2 cls d (X.pn ++ pins) hz2 ⟨_, hd2⟩).run [] _ _ G _ S2 y) (fun f s3 z => ?_) (fun _ _ z => False.elim z)
          rcases f with v | _ | _ | _
          all_goals first
            | (obtain ⟨τ3, G3, S3, z3⟩ := z
               exact ⟨_, _, S3.unsuite ok, z3⟩)
            | (obtain ⟨v3, τ3, G3, S3, r3, z3⟩ := z
               exact ⟨_, _, _, S3.unsuite ok, r3, z3⟩)
      | some n =>
        obtain ⟨qc, qa, qt⟩ := q
        cases qa with
        | none => exact hn.elim
        | some i =>
          obtain ⟨n1, n2⟩ := hn
          refine codeAny_handlers_suite_as (HandSPX.lands_againZ fl fun h2 fl2 up2 => ?_)
          have J2 : Inv X pins τ G { s1 with heap := h2 } := J.landed nb fl2.1 (up.trans up2) os ag
          obtain ⟨oe2, vs2, he2, hz2, hd2⟩ := fl2.there
          have S2 := J2.suite he2 hd2 na nL nF
          refine store_ok (X := X.suite a ((a, oe2) :: (X.pn ++ pins))) (v := .ref a) S2 hN n1 (.inl n2) rfl (fun s4 S4 => ?_) (.inr n2)
          refine wpAny_mono ((hsu a oe2 cls d (X.pn ++ pins) hz2 ⟨_, hd2⟩).run [] s4 _ G _ S4 y) (fun f s3 z => ?_) (fun _ _ z => False.elim z)
          have gone : ∀ {τ3 : L2.St} {G3 : Hp} {Q1 : Shared → Prop}, Inv (X.suite a ((a, oe2) :: (X.pn ++ pins))) [] τ3 G3 s3 → (∀ s5, Inv X pins (τ3.set i none) G3 s5 → Q1 s5) →
              wpAny (model X.prog X.w) X.A (do bindName X.env n .none; unbindBehindTheSuite X.env n hp) (fun _ s5 => Q1 s5) X.xe s3 := fun {τ3 G3 Q1} S3 k => gone_ok (S3.unsuite ok) hN n1 n2 k
          rcases f with v | _ | _ | _
          all_goals first
            | (obtain ⟨τ3, G3, S3, z3⟩ := z
               exact gone S3 fun s5 J5 => ⟨_, _, J5, z3⟩)
            | (obtain ⟨v3, τ3, G3, S3, r3, z3⟩ := z
               exact gone S3 fun s5 J5 => ⟨_, _, _, J5, r3, z3⟩)
theorem ps_try_all (hs : X.stack = X.env :: X.outer) (hf : X.env.frame = some X.env.locals) (hN : X.N.Nodup) (tk : L2N.Takes X Wo)
    (hb : ∀ (W1 : WX) (pn : List (Addr × Obj)) (xe : Value → Shared → Prop), L2N.Takes (X.tr pn xe) W1 → PassesOwn (model X.prog X.w) X.A X.env xe → PSs (X.tr pn xe) xs (tb W1))
    (hh : HdsX X (hd :: hds) l) : PS X (.Try xs (hd :: hds) [] [] pos) (fun D τ G => tb (wX X.K Wo D l) D τ G) := by
  refine ⟨fun pins s τ G D I h => wpAny_Try_except ?_⟩
  have ok := I.ok
  have fr : X.A.frames = some (X.env :: X.outer) := by rw [ok.frames, hs]
  refine wpAny_mono ((hb (wX X.K Wo D l) (X.pn ++ pins) (fun e s1 => wpAny (model X.prog X.w) X.A (noteFrame e X.env) (fun _ s2 => wpAny (model X.prog X.w) X.A (setFlight e none) (fun _ s3 =>
    wpAny (model X.prog X.w) X.A (handleBy e X.env (hd :: hds)) (SP X pins D) X.xe s3) X.xe s2) X.xe s1) (fun u s1 xx => ?_) PassesOwn.looking).run [] s τ G D (I.toTry _) h) (fun f s1 z => ?_) (fun e s1 z => z)
  · obtain ⟨a, B, sI, pins1, τ1, G1, cls, d, rfl, J0, nb, up, sky, na, os, ag, w⟩ := xx
    have J : Inv X pins τ1 G1 sI := J0.ofTry ok
    rw [show (X.tr (X.pn ++ pins) _).stack = X.env :: X.outer from hs] at sky
    show wpAny (model X.prog X.w) X.A (noteFrame (.ref a) X.env) _ _ _
    refine L2N.Sky.land L2N.Zn.steady fr hf sky fun h1 fl up1 => ?_
    have J1 : Inv X pins τ1 G1 { s1 with heap := h1 } := J.landed nb fl.1 (up.trans up1) os ag
    obtain ⟨oe, vs, he, hz, hdt⟩ := fl.there
    have nfr : a ∉ frs (X.env :: X.outer) := fun hm => by
      obtain ⟨_, o1, e1, hnf⟩ := fl.2.2.1.mem hm
      rw [he] at e1
      cases e1
      exact hnf _ hdt
    have nL : a ≠ X.env.locals := fun z => nfr (List.mem_filterMap.mpr ⟨X.env, List.mem_cons_self, by rw [hf, z]⟩)
    have nF : a ∉ X.fs := fun hm => by
      obtain ⟨en, h2, q2⟩ := List.mem_filterMap.mp hm
      exact nfr (List.mem_filterMap.mpr ⟨en, List.mem_cons_of_mem _ h2, q2⟩)
    exact clauses hs hf hN tk ok J nb (up.trans up1) na os ag fl J1 he hz hdt nL nF hh w
  · rcases f with v | _ | _ | _
    all_goals first
      | (obtain ⟨τ1, G1, J1, z1⟩ := z
         first
           | exact wpAny_execs_nil ⟨τ1, G1, J1.ofTry ok, z1⟩
           | exact ⟨τ1, G1, J1.ofTry ok, z1⟩)
      | (obtain ⟨v1, τ1, G1, J1, r1, z1⟩ := z
         exact ⟨v1, τ1, G1, J1.ofTry ok, r1, z1⟩)
end
end Rf

set_option Elab.async false
set_option maxRecDepth 100000
set_option maxHeartbeats 2000000
/-! Rf, part Xi: a, b = x, y in an except suite. -/
namespace Rf
open PySem PySem.Spec PyProof.Rows L2
section
variable {prog : Program} {w : World} {A : Around} {E : Value → Shared → Prop} {s : Shared}
/-- a tuple's end while an exception is handled -/
theorem hot_tup_end {it t x1 : Addr} {i : Nat} {items : Array Value} {Q : Option Value → Shared → Prop} (hot : HotX.HotAt A x1 s.heap) (hne : x1 ≠ it) (hit : IsTupIter s.heap it t i) (ht : IsTup s.heap t items) (hx : items[i]? = none)
    (hQ : ∀ h', Heap.ExtBut it s.heap h' → Q none { s with heap := h' }) : wpAny (model prog w) A (pyNext (.ref it)) Q E s := by
  obtain ⟨hh, o1, vs1, h1, d1, c1⟩ := hot
  obtain ⟨o, ho, hc, hd⟩ := id hit
  obtain ⟨ol, hol, _, nl, hdl⟩ := ht
  unfold pyNext
  refine wpAny_bind (wpAny_attempt (wpAny_callSpecial?_slot (name := Str.ofString "__next__") hit.typeIs slot_tupleiter_next (wpAny_call_entry slot_tupleiter_next hit.typeIs entry_tupleiter_next ?_ (args_tupleiter_next _))))
  show wpAny _ _ (field (.ref it) 0 >>= _) _ _ s
  refine wpAny_bind (wpAny_field ho hd (x := .ref t) rfl ?_)
  show wpAny _ _ (if (Value.ref t == Value.none) = true then _ else _) _ _ s
  rw [if_neg (show ¬ ((Value.ref t == Value.none) = true) from Bool.false_ne_true)]
  show wpAny _ _ (field (.ref it) 1 >>= _) _ _ s
  refine wpAny_bind (wpAny_field ho hd (x := .int i 0) rfl ?_)
  show wpAny _ _ (seqItems? (.ref t) >>= _) _ _ s
  refine wpAny_bind (wpAny_seqItems hol hdl ?_)
  simp only [Int.toNat_natCast, hx]
  refine wpAny_bind (wpAny_rule (wpAny_bind (wpAny_setField ho hd (by simp) ?_)))
  show wpAny _ _ (newExc (.type "StopIteration") [] >>= _) _ _ _
  refine wpAny_bind ?_
  simp only [newExc, newTuple]
  refine wpAny_bind (wpAny_newObj_type ?_ (by size_fits))
  refine wpAny_bind (m := firstArgMember _ _) (wpAny_of_eq (a := Value.none) (by first | rfl | (simp only [firstArgMember]; rfl)) ?_)
  refine wpAny_newObj_type ?_ (by size_fits)
  have up : ∀ {b : Addr} {ob : Obj} {f : Obj → Obj}, b ≠ it → s.heap.get? b = some ob → (s.heap.update it f).get? b = some ob := fun {b ob f} hb e => (Heap.get?_update_other _ _ (Ne.symm hb)).trans e
  refine HotX.raiseNew_hot ⟨hh, o1, vs1, Heap.get?_push_of_some _ (Heap.get?_push_of_some _ (up hne h1)), d1, c1⟩ (Nat.ne_of_lt (Heap.lt_size (Heap.get?_push_of_some _ (up hne h1)))) (Heap.get?_push_size _ rfl) rfl (by first | (simp; done) | (simp; omega) | (simp only [Array.size_append]; simp; omega)) ?_
  refine wpAny_bind (wpAny_isInstance (T := "StopIteration") (b := true) ⟨_, Heap.get?_update_self _ (Heap.get?_push_size _ rfl) rfl, rfl⟩ isSubtype_stop ?_)
  refine wpAny_pure (hQ _ fun b ob hb e => ?_)
  rw [Heap.get?_update_other _ _ (Nat.ne_of_gt (Heap.lt_size (Heap.get?_push_of_some _ (up hb e))))]
  exact Heap.get?_push_of_some _ (Heap.get?_push_of_some _ (up hb e))
theorem hot_unpack {t x1 : Addr} {items : Array Value} {Q : List Value → Shared → Prop} (hot : HotX.HotAt A x1 s.heap) (ht : IsTup s.heap t items)
    (hQ : ∀ h', Heap.ExtBut s.heap.objs.size s.heap h' → Q items.toList { s with heap := h' }) : wpAny (model prog w) A (unpackItems (.ref t) items.size none) Q E s := by
  have hlt : t ≠ s.heap.objs.size := by obtain ⟨o, ho, _⟩ := ht; exact Nat.ne_of_lt (Heap.lt_size ho)
  obtain ⟨hh, o1, vs1, h1, d1, c1⟩ := hot
  have hlx : x1 ≠ s.heap.objs.size := Nat.ne_of_lt (Heap.lt_size h1)
  unfold unpackItems
  refine wpAny_bind ?_
  unfold notIterableAtAll
  refine wpAny_bind (wpAny_specialOf ht.typeIs slot_tuple_iter.lookup ?_)
  refine wpAny_pure ?_
  simp only [Bool.false_eq_true, if_false]
  refine wpAny_bind (wpAny_holding (iter_tuple ht ?_))
  refine wpAny_bind (wpAny_holding (draw_tuple hlt items.size 0 _ _ ⟨_, Heap.get?_push_size _ rfl, rfl, rfl⟩ (ht.push _) (by omega) fun h₁ hit₁ hs₁ => ?_))
  have hall : List.take items.size (List.drop 0 items.toList) = items.toList := by
    rw [List.drop_zero]; exact List.take_of_length_le (by simp)
  rw [hall]
  rw [if_neg (by simp)]
  have ht₁ : IsTup h₁ t items := (ht.push _).extBut hs₁.extBut hlt
  refine wpAny_bind (wpAny_holding (hot_tup_end ⟨hh, o1, vs1, hs₁.extBut x1 o1 hlx (Heap.get?_push_of_some _ h1), d1, c1⟩ hlx hit₁ ht₁ (by simp) fun h₂ he₂ => ?_))
  simp only [Option.isSome_none, Bool.false_eq_true, if_false]
  exact wpAny_pure (hQ h₂ fun b o hb e => he₂ b o hb (hs₁.extBut b o hb (Heap.get?_push_of_some _ e)))
end
section
variable {X : Cx}
/-- a, b = x, y there -/
theorem ps_parH {i j : Nat} {x y : Str} {a b : Expr} {ta : TA} {px py pt pos : Pos} {kt k2 : Nat} {pt2 : Pos} (hc : L2H.HotC X) (hN : X.N.Nodup) (hi : X.N[i]? = some x) (hj : X.N[j]? = some y) (hij : i ≠ j)
    (hx : X.env.scope.names.lookup x = some .local) (hy : X.env.scope.names.lookup y = some .local) (ha : PA X [a, b] ta)
    (hw : swappedStores [.Tuple [.Name x px, .Name y py] kt pt] (.Tuple [a, b] k2 pt2) X.env = pure (some [x, y]))
    (hs : swapsWithSole [.Tuple [.Name x px, .Name y py] kt pt] (.Tuple [a, b] k2 pt2) pos.line X.env = pure false := by rfl) :
    PS X (.Assign [.Tuple [.Name x px, .Name y py] kt pt] (.Tuple [a, b] k2 pt2) pos) (tPar i j ta) := by
  refine ⟨fun pins s σ H D I h => ?_⟩
  rw [exec_Assign_arm]
  refine wpAny_bind (wpAny_standAt ?_)
  rw [hs]
  refine wpAny_bind (wpAny_pure ?_)
  rw [if_neg (by decide)]
  refine wpAny_bind (Tuple_ (thn (ha.run _ pins s σ H _ I h) fun us s1 ⟨vs, H1, I1, r1, q1⟩ => ?_))
  obtain ⟨v, w, e1, q1⟩ := q1
  subst e1
  obtain ⟨u1, u2, rfl, rv, rw'⟩ : ∃ u1 u2, us = [u1, u2] ∧ RelV v u1 ∧ RelV w u2 := by
    cases r1 with
    | cons p q =>
      cases q with
      | cons p' q' =>
        cases q'
        exact ⟨_, _, rfl, p, p'⟩
  refine wpAny_newObj_type ?_ (by show 2 ≤ sizeLine; decide)
  have I2 : Inv X pins σ H1 { s1 with heap := s1.heap.push { cls := .type "tuple", data := .seq [u1, u2].toArray } } := I1.kept (t' := s1.toks) fun b o e => Heap.get?_push_of_some _ e
  rw [hw]
  refine wpAny_bind (wpAny_pure ?_)
  obtain ⟨x1, hot⟩ := hc.at I2
  show wpAny (model X.prog X.w) X.A (do rule "assign.swapped-stores"; let items ← unpackItems (.ref s1.heap.objs.size) 2 none; assignInOrder [fun v => bindName X.env y v, fun v => bindName X.env x v] items.reverse; pure Flow.next) _ _ _
  refine wpAny_bind (wpAny_rule (wpAny_bind (hot_unpack (items := #[u1, u2]) hot (IsTup.new s1.heap _) fun h' hx' => ?_)))
  have I3 := I2.kept (h' := h') (t' := s1.toks) fun b o e => hx' b o (Nat.ne_of_lt (Heap.lt_size e)) e
  show wpAny _ _ (assignInOrder [fun v => bindName X.env y v, fun v => bindName X.env x v] [u2, u1] >>= fun _ => pure Flow.next) _ _ _
  refine wpAny_bind (assignInOrder_cons (wpAny_bindName (store_ok I3 hN hj (.inl hy) rw' (fun s2 I4 => ?_) (.inr hy))))
  refine assignInOrder_cons (wpAny_bindName (store_ok I4 hN hi (.inl hx) rv (fun s3 I5 => assignInOrder_nil (wpAny_pure ?_)) (.inr hx)))
  rw [List.set_comm _ _ (Ne.symm hij)] at I5
  exact ⟨_, H1, I5, q1⟩
end
end Rf

/-! Rf, part A: abstract values, terms, and what they come to (a plain evaluator; nothing of the machine here). -/
set_option maxRecDepth 20000
namespace Rf
open PySem

/-- constants -/
inductive Cst where
  | non | bl (b : Bool) | int (i : Int) | str (x : Str)
  deriving DecidableEq

/-- values: what never changes is told whole; what may change stands in the store -/
inductive D where
  | c (k : Cst)
  | tup (xs : List D)
  | lst (xs : List D)
  | ref (n : Nat)
  | fn (f : Nat)
  | ty (n : String)
  /-- a list that is known and that nobody may change (the script) -/
  | fz (xs : List D)
  /-- an empty dict that nobody changes -/
  | edc
  /-- a tuple of which it is known that it has no dict -/
  | ptup (xs : List D)

abbrev D.non : D := .c .non
abbrev D.bl (b : Bool) : D := .c (.bl b)
abbrev D.int (i : Int) : D := .c (.int i)
abbrev D.str (x : Str) : D := .c (.str x)

/-- keys of dicts -/
inductive Ky where
  | int (i : Int) | str (x : Str)
  deriving DecidableEq

/-- what stands in the store -/
inductive Ob where
  | lst (xs : List D)
  | dct (kvs : List (Ky × D))

abbrev Store := List Ob
abbrev Env := List (Option D)

/-- an exception: its class (by the table's number), its fields -/
structure Ex where
  cls : Nat
  args : List D

inductive Res (α : Type) where
  | ok (a : α) (S : Store)
  | ex (e : Ex) (S : Store)
  | bad

def Res.bind {α β : Type} (r : Res α) (f : α → Store → Res β) : Res β :=
  match r with
  | .ok a S => f a S
  | .ex e S => .ex e S
  | .bad => .bad
@[simp] theorem bind_ok {α β : Type} (a : α) (S : Store) (f : α → Store → Res β) : (Res.ok a S).bind f = f a S := rfl
@[simp] theorem bind_ex {α β : Type} (e : Ex) (S : Store) (f : α → Store → Res β) : (Res.ex e S).bind f = .ex e S := rfl
@[simp] theorem bind_bad {α β : Type} (f : α → Store → Res β) : (Res.bad : Res α).bind f = .bad := rfl
def lift {α : Type} (o : Option α) (S : Store) : Res α := match o with
  | some a => .ok a S
  | none => .bad
@[simp] theorem lift_some {α : Type} (a : α) (S : Store) : lift (some a) S = .ok a S := rfl
@[simp] theorem lift_none {α : Type} (S : Store) : lift (none : Option α) S = .bad := rfl

/-! ### operators -/
inductive BOp where
  | add | sub | mul | div | mod | pow
  deriving DecidableEq
inductive COp where
  | eq | ne | lt | le | gt | ge | isin | notin | is | isnot
  deriving DecidableEq

/-- the longest list, text -/
abbrev LINE : Nat := 16777216

def mulOk (i j : Int) : Bool := (decide (-(2 ^ 64) < i) && decide (i < 2 ^ 64)) || (decide (-(2 ^ 64) < j) && decide (j < 2 ^ 64))
def addD : D → D → Option D
  | .c (.int i), .c (.int j) => some (.int (i + j))
  | .c (.str x), .c (.str y) => if x.length + y.length ≤ LINE then some (.str (x ++ y)) else none
  | .tup xs, .tup ys => if xs.length + ys.length ≤ LINE then some (.tup (xs ++ ys)) else none
  | .lst xs, .lst ys => if xs.length + ys.length ≤ LINE then some (.lst (xs ++ ys)) else none
  | _, _ => none
def subD : D → D → Option D
  | .c (.int i), .c (.int j) => some (.int (i - j))
  | _, _ => none
def mulD : D → D → Option D
  | .c (.int i), .c (.int j) => if mulOk i j then some (.int (i * j)) else none
  | .c (.str x), .c (.int j) => if 2 ≤ j ∧ 1 ≤ x.length ∧ x.length * j.toNat ≤ 1000000 then some (.str ⟨(List.replicate j.toNat x.cps).foldl (· ++ ·) #[]⟩) else none
  | .lst xs, .c (.int j) => if xs.length * j.toNat ≤ LINE ∧ -(2 ^ 63) ≤ j ∧ j < 2 ^ 63 then some (.lst (List.replicate j.toNat xs).flatten) else none
  | .tup xs, .c (.int j) => if j = 1 then some (.tup xs) else if xs ≠ [] ∧ j ≤ 0 ∧ -1000 ≤ j then some (.tup []) else if xs ≠ [] ∧ 2 ≤ j ∧ xs.length * j.toNat ≤ 1000000 then some (.tup (List.replicate j.toNat xs).flatten) else none
  | _, _ => none
def divD : D → D → Option D
  | .c (.int i), .c (.int j) => if 0 < j ∧ j < 1073741824 then some (.int (i / j)) else none
  | _, _ => none
def modD : D → D → Option D
  | .c (.int i), .c (.int j) => if 0 < j then some (.int (i % j)) else none
  | _, _ => none
def powD : D → D → Option D
  | .c (.int i), .c (.int j) => if 0 ≤ j ∧ j ≤ 1000000 ∧ i.natAbs < 2 ^ 64 then some (.int (i ^ j.toNat)) else none
  | _, _ => none
def binD : BOp → D → D → Option D
  | .add => addD
  | .sub => subD
  | .mul => mulD
  | .div => divD
  | .mod => modD
  | .pow => powD

mutual
/-- == of data (True is 1, False is 0) -/
def eqD : D → D → Bool
  | .c .non, .c .non => true
  | .c (.bl a), .c (.bl b) => a == b
  | .c (.bl a), .c (.int j) => decide ((if a then (1 : Int) else 0) = j)
  | .c (.int i), .c (.bl b) => decide (i = (if b then (1 : Int) else 0))
  | .c (.int i), .c (.int j) => decide (i = j)
  | .c (.str x), .c (.str y) => decide (x = y)
  | .tup xs, .tup ys => eqDs xs ys
  | .lst xs, .lst ys => eqDs xs ys
  | _, _ => false
def eqDs : List D → List D → Bool
  | [], [] => true
  | x :: xs, y :: ys => eqD x y && eqDs xs ys
  | _, _ => false
end
mutual
def depD : D → Nat
  | .tup xs => depDs xs + 1
  | .lst xs => depDs xs + 1
  | _ => 0
def depDs : List D → Nat
  | [] => 0
  | x :: xs => max (depD x) (depDs xs)
end
mutual
/-- plain data: nothing that may change -/
def plnD : D → Bool
  | .c _ => true
  | .tup xs => plnDs xs
  | .lst xs => plnDs xs
  | _ => false
def plnDs : List D → Bool
  | [] => true
  | x :: xs => plnD x && plnDs xs
end

mutual
/-- the library's plain data -/
def toPy : D → PyData
  | .c .non => .none
  | .c (.bl b) => .bool b
  | .c (.int i) => .int i
  | .c (.str x) => .str x
  | .tup xs => .tuple (toPys xs)
  | .lst xs => .list (toPys xs)
  | .ref _ => .none
  | .fn _ => .none
  | .ty _ => .none
  | .fz _ => .none
  | .edc => .none
  | .ptup _ => .none
def toPys : List D → List PyData
  | [] => []
  | x :: xs => toPy x :: toPys xs
end
mutual
/-- all signs are signs, all intsD may be shown -/
def okD : D → Bool
  | .c (.int i) => decide (i.natAbs.log2 < 1920)
  | .c (.str x) => PyData.canLay0 (.str x)
  | .tup xs => okDs xs
  | .lst xs => okDs xs
  | _ => true
def okDs : List D → Bool
  | [] => true
  | x :: xs => okD x && okDs xs
end
mutual
/-- no less than the length of what repr shows -/
def wD : D → Nat
  | .c (.int i) => i.natAbs.log2 + 3
  | .c (.str x) => 10 * x.length + 2
  | .tup xs => wDs xs + 3
  | .lst xs => wDs xs + 3
  | _ => 5
def wDs : List D → Nat
  | [] => 0
  | x :: xs => wD x + 2 + wDs xs
end
mutual
/-- all signs are signs (for ==) -/
def sgD : D → Bool
  | .c (.str x) => PyData.canLay0 (.str x)
  | .tup xs => sgDs xs
  | .lst xs => sgDs xs
  | _ => true
def sgDs : List D → Bool
  | [] => true
  | x :: xs => sgD x && sgDs xs
end
/-- may be compared by == -/
def eqOk (d : D) : Bool := plnD d && sgD d && decide (depD d ≤ 64)

/-! ### order of data: intsD, texts, tuples of these -/
mutual
def ltD : D → D → Option Bool
  | .c (.int i), .c (.int j) => some (decide (i < j))
  | .tup xs, .tup ys => ltDs xs ys
  | _, _ => none
def ltDs : List D → List D → Option Bool
  | [], [] => some false
  | [], _ :: _ => some true
  | _ :: _, [] => some false
  | x :: xs, y :: ys => if eqD x y then ltDs xs ys else ltD x y
end

def isNon : D → Bool
  | .c .non => true
  | _ => false
def inStr (x y : Str) : Option Bool := match x.cps.toList with
  | [k] => some (decide (k ∈ y.cps.toList))
  | _ => none
def qD (p : Int → Int → Bool) : D → D → Option Bool
  | .c (.int i), .c (.int j) => some (p i j)
  | _, _ => none
def eqS : D → D → Option Bool
  | .c (.str a), .c (.str b) => some (decide (a = b))
  | .lst xs, .lst ys => if xs.length = ys.length then none else some false
  | _, _ => none
def eqD? (x y : D) : Option Bool := if eqOk x && eqOk y then some (eqD x y) else eqS x y
def isC : D → Bool
  | .c _ => true
  | _ => false
def inD : D → D → Option Bool
  | x, .tup ys => if isC x && ys.all isC then some (ys.any fun y => eqD y x) else none
  | x, .lst ys => if eqOk x && eqOk (.lst ys) then some (ys.any fun y => eqD y x) else none
  | .c (.str x), .c (.str y) => inStr x y
  | _, _ => none
def isD : D → D → Option Bool
  | x, .c .non => some (isNon x)
  | .c (.bl a), .c (.bl b) => some (decide (a = b))
  | _, _ => none
def cmpD : COp → D → D → Option Bool
  | .eq, x, y => eqD? x y
  | .ne, x, y => (eqD? x y).map (!·)
  | .lt, x, y => qD (fun i j => decide (i < j)) x y
  | .le, x, y => qD (fun i j => decide (i ≤ j)) x y
  | .gt, x, y => qD (fun i j => decide (j < i)) x y
  | .ge, x, y => qD (fun i j => decide (j ≤ i)) x y
  | .isin, x, y => inD x y
  | .notin, x, y => (inD x y).map (!·)
  | .is, x, y => isD x y
  | .isnot, x, y => (isD x y).map (!·)

/-! ### built-ins -/
inductive Blt where
  | len | all | any | sum | abs | int | tuple | list | sorted | min | max | repr | str
  deriving DecidableEq

def typeOfD : D → Option String
  | .c .non => some "NoneType"
  | .c (.bl _) => some "bool"
  | .c (.int _) => some "int"
  | .c (.str _) => some "str"
  | .tup _ => some "tuple"
  | .lst _ => some "list"
  | .edc => some "dict"
  | _ => none
/-- isinstance of a built-in class -/
def isiD (d : D) (n : String) : Option Bool := match typeOfD d with
  | some t => if n = "int" then some (t == "int" || t == "bool") else if n = "bool" ∨ n = "str" ∨ n = "tuple" ∨ n = "list" ∨ n = "dict" then some (t == n) else none
  | none => none

def boolsD : List D → Option (List Bool)
  | [] => some []
  | .c (.bl b) :: r => (boolsD r).map (b :: ·)
  | _ => none
def intsD : List D → Option (List Int)
  | [] => some []
  | .c (.int i) :: r => (intsD r).map (i :: ·)
  | _ => none
def seqOf : D → Option (List D)
  | .tup xs => some xs
  | .lst xs => some xs
  | _ => none
def insD (i : Int) : List Int → List Int
  | [] => [i]
  | j :: r => if i ≤ j then i :: j :: r else j :: insD i r
def sortI (l : List Int) : List Int := l.foldr insD []

def lenD : D → Option D
  | .tup xs => some (.int xs.length)
  | .lst xs => some (.int xs.length)
  | .fz xs => some (.int xs.length)
  | .c (.str x) => if x.length ≤ LINE then some (.int x.length) else none
  | _ => none
def allD : D → Option D
  | .lst xs => (boolsD xs).map fun bs => .bl (bs.all id)
  | _ => none
def anyD : D → Option D
  | .lst xs => (boolsD xs).map fun bs => .bl (bs.any id)
  | _ => none
def sumD : D → Option D
  | .lst xs => (intsD xs).map fun is => .int is.sum
  | _ => none
def absD : D → Option D
  | .c (.int i) => some (.int (if i < 0 then -i else i))
  | _ => none
def intD : D → Option D
  | .c (.int i) => some (.int i)
  | .c (.bl b) => some (.int (if b then 1 else 0))
  | .c (.str x) => if x.length ≤ 640 then (intText? x).map fun n => .int n else none
  | _ => none
def tupD : D → Option D
  | .lst xs => some (.tup xs)
  | .tup xs => some (.tup xs)
  | _ => none
def lstD : D → Option D
  | .lst xs => some (.lst xs)
  | .tup xs => some (.lst xs)
  | _ => none
def srtD : D → Option D
  | .lst xs => (intsD xs).map fun is => .lst ((sortI is).map .int)
  | .tup xs => (intsD xs).map fun is => .lst ((sortI is).map .int)
  | _ => none
def minD : D → D → Option D
  | .c (.int i), .c (.int j) => some (.int (if j < i then j else i))
  | _, _ => none
def maxD : D → D → Option D
  | .c (.int i), .c (.int j) => some (.int (if j > i then j else i))
  | _, _ => none
def isSeq : D → Bool
  | .tup _ => true
  | .lst _ => true
  | _ => false
def isRep (d : D) : Bool := isSeq d || isC d
def reprD (d : D) : Option D := if isRep d && eqOk d && okD d && decide (wD d ≤ LINE) then some (.str (PyData.shown (toPy d))) else none
def strD : D → Option D
  | .c (.int i) => if i.natAbs.log2 < 1920 then some (.str (Str.ofString (toString i))) else none
  | .c (.str x) => some (.str x)
  | _ => none
/-- sum(xs, []) -/
def catD : List D → Option (List D)
  | [] => some []
  | .lst ys :: r => (catD r).map (ys ++ ·)
  | _ => none
def sum2D : D → Option D
  | .lst xs => (catD xs).bind fun ys => if ys.length ≤ LINE then some (.lst ys) else none
  | _ => none
/-- each once -/
def onceI : List Int → List Int
  | [] => []
  | i :: r => if i ∈ r then onceI r else i :: onceI r
def ssetD : D → Option D
  | .lst xs => (intsD xs).bind fun is => if is.length < 60 then some (.lst ((sortI (onceI is)).map .int)) else none
  | _ => none
def revD : D → Option D
  | .tup xs => some (.tup xs.reverse)
  | .lst xs => some (.lst xs.reverse)
  | _ => none
def one (f : D → Option D) : List D → Option D
  | [a] => f a
  | _ => none
def two (f : D → D → Option D) : List D → Option D
  | [a, b] => f a b
  | _ => none
def bltD : Blt → List D → Option D
  | .len => one lenD
  | .all => one allD
  | .any => one anyD
  | .sum => one sumD
  | .abs => one absD
  | .int => one intD
  | .tuple => one tupD
  | .list => one lstD
  | .sorted => one srtD
  | .min => two minD
  | .max => two maxD
  | .repr => one reprD
  | .str => one strD

/-! ### places of a list, slices -/
def ixD (n : Nat) (i : Int) : Option Nat := if 0 ≤ i then (if i < n then some i.toNat else none) else if -(n : Int) ≤ i then some (i + n).toNat else none
def atD {α : Type} (xs : List α) (i : Int) : Option α := (ixD xs.length i).bind fun j => xs[j]?
/-- the place that a slice's bound tells -/
def clD (n d : Nat) : Option Int → Nat
  | none => d
  | some i => if i < 0 then (i + n).toNat else min i.toNat n
def cutD {α : Type} (xs : List α) (lo hi : Option Int) : List α := (xs.drop (clD xs.length 0 lo)).take (clD xs.length xs.length hi - clD xs.length 0 lo)
def keyOf : D → Option Ky
  | .c (.int i) => some (.int i)
  | .c (.str x) => some (.str x)
  | _ => none
def kyD : Ky → D
  | .int i => .int i
  | .str x => .str x
def getK (kvs : List (Ky × D)) (k : Ky) : Option D := (kvs.find? fun q => decide (q.1 = k)).map (·.2)
def putKy (kvs : List (Ky × D)) (k : Ky) (v : D) : List (Ky × D) :=
  if (kvs.any fun q => decide (q.1 = k)) then kvs.map fun q => if q.1 = k then (k, v) else q else kvs ++ [(k, v)]
def idxD (x i : D) (S : Store) : Option D := match x, i with
  | .tup xs, .c (.int i) => atD xs i
  | .lst xs, .c (.int i) => atD xs i
  | .fz xs, .c (.int i) => atD xs i
  | .c (.str x), .c (.int i) => if x.length ≤ LINE then (atD x.cps.toList i).map fun k => .str ⟨#[k]⟩ else none
  | .ref n, i => (match S[n]?, i with
    | some (.lst xs), .c (.int i) => atD xs i
    | some (.dct kvs), i => (keyOf i).bind fun k => getK kvs k
    | _, _ => none)
  | _, _ => none
def slcO (x : D) (lo hi : Option Int) (S : Store) : Option D := match x with
  | .tup xs => some (.tup (cutD xs lo hi))
  | .lst xs => some (.lst (cutD xs lo hi))
  | .fz xs => some (.lst (cutD xs lo hi))
  | .c (.str x) => if x.length ≤ LINE then some (.str ⟨(cutD x.cps.toList lo hi).toArray⟩) else none
  | .ref n => (match S[n]? with
    | some (.lst xs) => some (.lst (cutD xs lo hi))
    | _ => none)
  | _ => none
def bnds : List D → Option (Option Int)
  | [] => some none
  | [.c (.int i)] => some (some i)
  | _ => none
def slcP (x : D) (lo hi : List D) (S : Store) : Option D := match bnds lo, bnds hi with
  | some lo, some hi => slcO x lo hi S
  | _, _ => none
/-- a list that may change, read as it stands -/
def see (S : Store) : D → D
  | .ref n => (match S[n]? with
    | some (.lst xs) => .lst xs
    | _ => .ref n)
  | d => d

/-! ### methods -/
inductive Mth where
  | append | extend | insert
  deriving DecidableEq
/-- the store's list, dict -/
def lstAt (S : Store) : D → Option (Nat × List D)
  | .ref n => (match S[n]? with
    | some (.lst xs) => some (n, xs)
    | _ => none)
  | _ => none
def dctAt (S : Store) : D → Option (Nat × List (Ky × D))
  | .ref n => (match S[n]? with
    | some (.dct kvs) => some (n, kvs)
    | _ => none)
  | _ => none
def appD (o : D) (as : List D) (S : Store) : Res D := match lstAt S o, as with
  | some (n, xs), [v] => if xs.length < LINE then .ok .non (S.set n (.lst (xs ++ [v]))) else .bad
  | _, _ => .bad
def extD (o : D) (as : List D) (S : Store) : Res D := match lstAt S o, as with
  | some (n, xs), [v] => (match see S v with
    | .lst vs => if xs.length + vs.length ≤ LINE then .ok .non (S.set n (.lst (xs ++ vs))) else .bad
    | _ => .bad)
  | _, _ => .bad
def insM (o : D) (as : List D) (S : Store) : Res D := match lstAt S o, as with
  | some (n, xs), [.c (.int i), v] => if xs.length < LINE ∧ 0 ≤ i ∧ i < 2 ^ 63 then .ok .non (S.set n (.lst (xs.take i.toNat ++ [v] ++ xs.drop i.toNat))) else .bad
  | _, _ => .bad
/-- o.pop() -/
def popD (o : D) (S : Store) : Res D := match lstAt S o with
  | some (n, xs) => (match xs[xs.length - 1]? with
    | some d => .ok d (S.set n (.lst xs.dropLast))
    | none => .bad)
  | none => .bad
def mthD : Mth → D → List D → Store → Res D
  | .append => appD
  | .extend => extD
  | .insert => insM
/-- s.join(xs), s.split(x) -/
def strsD : List D → Option (List Str)
  | [] => some []
  | .c (.str x) :: r => (strsD r).map (x :: ·)
  | _ => none
def joinD (a : Str) : D → Option D
  | .lst ds => (strsD ds).bind fun ys => if (ys.map (·.length)).sum + ys.length * a.length ≤ LINE then some (.str (Txt.join a ys)) else none
  | _ => none
def splitD (a : Str) : D → Option D
  | .c (.str b) => if (b.length == 0) = false ∧ a.length + 2 ≤ LINE ∧ (Txt.split a b).length ≤ LINE then some (.lst ((Txt.split a b).map fun x => .str x)) else none
  | _ => none
def smthD (b : Bool) : D → D → Option D
  | .c (.str a), d => if b then joinD a d else splitD a d
  | _, _ => none
def isStrD : D → Bool
  | .c (.str _) => true
  | _ => false
def mthOk : Mth → D → Store → Bool
  | .append, x, S => (lstAt S x).isSome
  | .extend, x, S => (lstAt S x).isSome
  | .insert, x, S => (lstAt S x).isSome
/-- d.get(k, x) -/
def getD2 (o k z : D) (S : Store) : Option D := match dctAt S o, keyOf k with
  | some (_, kvs), some k => some ((getK kvs k).getD z)
  | _, _ => none
def intKeys : List (Ky × D) → Option (List Int)
  | [] => some []
  | (.int i, _) :: r => (intKeys r).map (i :: ·)
  | _ => none
/-- sorted(d) of a dict whose keys are ints -/
def skeyD (o : D) (S : Store) : Option D := match dctAt S o with
  | some (_, kvs) => (intKeys kvs).bind fun is => if is.length < 64 then some (.lst ((sortI is).map .int)) else none
  | none => none

/-- {..}[y] -/
def dlxD (kvs : List (Int × Cst)) : D → Option D
  | .c (.int n) => (kvs.find? fun q => decide (q.1 = n)).map fun q => .c q.2
  | _ => none
/-- tuple(x), plainly made -/
def tuppD : D → Option D
  | .lst xs => some (.ptup xs)
  | _ => none
/-- the first place of a number -/
def tixD (xs : List D) : D → Option D
  | .c (.int z) => (intsD xs).bind fun is => if z ∈ is then some (.int (is.idxOf z)) else none
  | _ => none
/-! ### terms -/
mutual
inductive Tm where
  /-- a name's slot -/
  | var (i : Nat)
  | cst (k : Cst)
  /-- a constant of the module, by the table's number -/
  | glb (g : Nat)
  /-- a def as a value -/
  | fnv (f : Nat)
  | bin (op : BOp) (a b : Tm)
  | neg (a : Tm)
  | not (a : Tm)
  | cmp (op : COp) (a b : Tm)
  /-- a op b op' c -/
  | cmp2 (op op' : COp) (a b e : Tm)
  | and (a b : Tm)
  | or (a b : Tm)
  | ite (t a b : Tm)
  | call (f : Nat) (as : Tms)
  /-- the same, of a def that makes something that is to stay in the store -/
  | callk (f : Nat) (as : Tms)
  /-- a call of the def that a slot holds -/
  | callv (i : Nat) (as : Tms)
  | blt (b : Blt) (as : Tms)
  | isi (a : Tm) (n : String)
  | mth (m : Mth) (o : Tm) (as : Tms)
  /-- o.get(k, z) -/
  | dget (o k z : Tm)
  /-- sorted(o) of a dict -/
  | skey (o : Tm)
  | idx (a i : Tm)
  | slc (a : Tm) (lo hi : Tms)
  | tup (as : Tms)
  /-- a list that nobody changes -/
  | lst (as : Tms)
  /-- a list that may change -/
  | new (as : Tms)
  /-- an empty dict that may change -/
  | newd
  /-- list(range(..)), tuple(range(..)) -/
  | rgl (tp : Bool) (a : Tm)
  /-- list(a), a list that may change -/
  | newc (a : Tm)
  /-- o.pop() -/
  | pop (o : Tm)
  /-- a[::-1] -/
  | rev (a : Tm)
  /-- sum(a, []) -/
  | sum2 (a : Tm)
  /-- sorted(set(a)) -/
  | sset (a : Tm)
  /-- a name's slot that holds a plain tuple, read as a tuple -/
  | varw (i : Nat)
  /-- tuple(a) -/
  | tupp (a : Tm)
  /-- x.index(a), x a plain tuple -/
  | tix (i : Nat) (a : Tm)
  /-- o.join(a), o.split(a) -/
  | smth (b : Bool) (o a : Tm)
  /-- list(o.keys()) -/
  | lkeys (o : Tm)
  /-- an empty dict that nobody changes -/
  | edct
  /-- a written dict, read at once: {..}[i] -/
  | dlx (kvs : List (Int × Cst)) (i : Tm)
  | comp (e : Tm) (own : List Nat) (tg : Tg) (s : Sr) (ifs : Tms)
inductive Tms where
  | nil
  | cons (a : Tm) (r : Tms)
/-- targets -/
inductive Tg where
  | nm (i : Nat)
  | tp (ts : Tgs)
inductive Tgs where
  | nil
  | cons (t : Tg) (r : Tgs)
/-- what is gone through -/
inductive Sr where
  | seq (a : Tm)
  | enum (as : Tms)
  | zip (as : Tms)
  | rng (as : Tms)
end

mutual
/-- a store to a target -/
def asg : Tg → D → Env → Option Env
  | .nm i, d, σ => if i < σ.length then some (σ.set i (some d)) else none
  | .tp ts, .tup ds, σ => asgs ts ds σ
  | .tp ts, .lst ds, σ => asgs ts ds σ
  | .tp _, _, _ => none
def asgs : Tgs → List D → Env → Option Env
  | .nil, [], σ => some σ
  | .cons t r, d :: ds, σ => (asg t d σ).bind fun σ' => asgs r ds σ'
  | _, _, _ => none
end
def clr (σ : Env) : List Nat → Env
  | [] => σ
  | v :: vs => (clr σ vs).set v none

/-- nothing may be raised within a comprehension -/
def Res.calm {α : Type} : Res α → Res α
  | .ok a S => .ok a S
  | _ => .bad
@[simp] theorem calm_ok {α : Type} (a : α) (S : Store) : (Res.ok a S).calm = .ok a S := rfl
@[simp] theorem calm_ex {α : Type} (e : Ex) (S : Store) : (Res.ex e S : Res α).calm = .bad := rfl
@[simp] theorem calm_bad {α : Type} : (Res.bad : Res α).calm = .bad := rfl
/-- the turns of a comprehension -/
def turns (f : D → Store → Res (Option D)) : List D → Store → Res (List D)
  | [], S => .ok [] S
  | x :: xs, S => (f x S).calm.bind fun o S => (turns f xs S).bind fun ys S => .ok (o.toList ++ ys) S

def enumD (n : Nat) : List D → List D
  | [] => []
  | x :: xs => .tup [.int n, x] :: enumD (n + 1) xs
def zipD : List D → List D → List D
  | x :: xs, y :: ys => .tup [x, y] :: zipD xs ys
  | _, _ => []
def rngN (lo c : Int) : Nat → List D
  | 0 => []
  | n + 1 => .int lo :: rngN (lo + c) c n
/-- how many turns range(i, j, c) takes, c above 0 -/
def rngC (i j c : Int) : Nat := if i < j then ((j - i - 1) / c + 1).toNat else 0

def itemsOf (d : D) : Option (List D) := match d with
  | .tup xs => some xs
  | .lst xs => some xs
  | .fz xs => some xs
  | .c (.str x) => if x.length ≤ LINE then some (x.cps.toList.map fun k => .str ⟨#[k]⟩) else none
  | _ => none
def enumI : List D → Option (List D)
  | [.tup xs] => some (enumD 0 xs)
  | [.lst xs] => some (enumD 0 xs)
  | _ => none
def zipI : List D → Option (List D)
  | [.tup xs, .tup ys] => some (zipD xs ys)
  | [.lst xs, .lst ys] => some (zipD xs ys)
  | _ => none
def bl? : D → Option Bool
  | .c (.bl b) => some b
  | _ => none
def small62 (i : Int) : Bool := decide (-(2 ^ 62) ≤ i) && decide (i < 2 ^ 62)
def rngI : List D → Option (List D)
  | [.c (.int j)] => if small62 j = true ∧ j ≤ LINE then some (rngN 0 1 j.toNat) else none
  | [.c (.int i), .c (.int j)] => if (small62 i && small62 j) = true ∧ j - i ≤ LINE then some (rngN i 1 (j - i).toNat) else none
  | [.c (.int i), .c (.int j), .c (.int k)] => if (small62 i && small62 j) = true ∧ 0 < k ∧ k < 1073741824 ∧ rngC i j k ≤ LINE then some (rngN i k (rngC i j k)) else none
  | _ => none

/-- a range as a list -/
def rglD : D → Option (List D)
  | .c (.int j) => if small62 j = true ∧ j ≤ LINE then some (rngN 0 1 j.toNat) else none
  | _ => none
/-! ### behind a call -/
mutual
/-- all that it names in the store is below n -/
def lowD (n : Nat) : D → Bool
  | .ref k => decide (k < n)
  | .tup xs => lowDs n xs
  | .lst xs => lowDs n xs
  | .fz xs => lowDs n xs
  | .ptup xs => lowDs n xs
  | _ => true
def lowDs (n : Nat) : List D → Bool
  | [] => true
  | x :: xs => lowD n x && lowDs n xs
end
def lowOb (n : Nat) : Ob → Bool
  | .lst xs => lowDs n xs
  | .dct kvs => lowDs n (kvs.map (·.2))
/-- the store names nothing beyond itself -/
def closed (S : Store) : Bool := S.all (lowOb S.length)
/-- a list that is newer than n, handed back: read once for all -/
def unref (n : Nat) (S : Store) : D → D
  | .ref k => if n ≤ k then see S (.ref k) else .ref k
  | d => d
/-- what a def's end leaves: what it alone has made is forgotten -/
def fin (n : Nat) (d : D) (S : Store) : Res D :=
  if lowD n (unref n S d) && (S.take n).all (lowOb n) then .ok (unref n S d) (S.take n) else .bad
def finX (n : Nat) (e : Ex) (S : Store) : Res D :=
  if lowDs n e.args && (S.take n).all (lowOb n) then .ex e (S.take n) else .bad
def trim (n : Nat) : Res D → Res D
  | .ok d S => fin n d S
  | .ex e S => finX n e S
  | .bad => .bad

abbrev Cl := Nat → List D → Store → Res D

section
variable (G : Nat → Option D) (F : Cl)
mutual
def ev : Tm → Env → Store → Res D
  | .var i, σ, S => (match σ[i]? with
    | some (some d) => .ok d S
    | _ => .bad)
  | .varw i, σ, S => (match σ[i]? with
    | some (some (.ptup xs)) => .ok (.tup xs) S
    | some (some d) => .ok d S
    | _ => .bad)
  | .tupp a, σ, S => (ev a σ S).bind fun x S => lift (tuppD (see S x)) S
  | .tix i a, σ, S => (match σ[i]? with
    | some (some (.ptup xs)) => (ev a σ S).bind fun y S => lift (tixD xs y) S
    | _ => .bad)
  | .cst k, _, S => .ok (.c k) S
  | .glb g, _, S => lift (G g) S
  | .fnv f, _, S => .ok (.fn f) S
  | .bin op a b, σ, S => (ev a σ S).bind fun x S => (ev b σ S).bind fun y S => lift (binD op x y) S
  | .neg a, σ, S => (ev a σ S).bind fun x S => (match x with
    | .c (.int i) => .ok (.int (-i)) S
    | _ => .bad)
  | .not a, σ, S => (ev a σ S).bind fun x S => (match x with
    | .c (.bl b) => .ok (.bl (!b)) S
    | _ => .bad)
  | .cmp op a b, σ, S => (ev a σ S).bind fun x S => (ev b σ S).bind fun y S => lift ((cmpD op (see S x) (see S y)).map .bl) S
  | .cmp2 op op' a b e, σ, S => (ev a σ S).bind fun x S => (ev b σ S).bind fun y S => (match cmpD op (see S x) (see S y) with
    | some true => (ev e σ S).bind fun z S => lift ((cmpD op' (see S y) (see S z)).map .bl) S
    | some false => .ok (.bl false) S
    | none => .bad)
  | .and a b, σ, S => (ev a σ S).bind fun x S => (match x with
    | .c (.bl true) => ev b σ S
    | .c (.bl false) => .ok (.bl false) S
    | _ => .bad)
  | .or a b, σ, S => (ev a σ S).bind fun x S => (match x with
    | .c (.bl true) => .ok (.bl true) S
    | .c (.bl false) => ev b σ S
    | _ => .bad)
  | .ite t a b, σ, S => (ev t σ S).bind fun x S => (match x with
    | .c (.bl true) => ev a σ S
    | .c (.bl false) => ev b σ S
    | _ => .bad)
  | .call f as, σ, S => (evs as σ S).bind fun ds S => trim S.length (F f ds S)
  | .callk f as, σ, S => (evs as σ S).bind fun ds S => F f ds S
  | .callv i as, σ, S => (match σ[i]? with
    | some (some (.fn f)) => (evs as σ S).bind fun ds S => trim S.length (F f ds S)
    | _ => .bad)
  | .blt b as, σ, S => (evs as σ S).bind fun ds S => lift (bltD b (ds.map (see S))) S
  | .isi a n, σ, S => (ev a σ S).bind fun x S => lift ((isiD x n).map .bl) S
  | .mth m o as, σ, S => (ev o σ S).bind fun x S => if mthOk m x S then (evs as σ S).bind fun ds S => mthD m x ds S else .bad
  | .dget o k z, σ, S => (ev o σ S).bind fun x S => if (dctAt S x).isSome then (ev k σ S).bind fun y S => (ev z σ S).bind fun z S => lift (getD2 x y z S) S else .bad
  | .skey o, σ, S => (ev o σ S).bind fun x S => lift (skeyD x S) S
  | .idx a i, σ, S => (ev a σ S).bind fun x S => (ev i σ S).bind fun y S => lift (idxD x y S) S
  | .slc a lo hi, σ, S => (ev a σ S).bind fun x S => (evs lo σ S).bind fun y S => if (bnds y).isSome then (evs hi σ S).bind fun z S => lift (slcP x y z S) S else .bad
  | .tup as, σ, S => (evs as σ S).bind fun ds S => .ok (.tup ds) S
  | .lst as, σ, S => (evs as σ S).bind fun ds S => .ok (.lst ds) S
  | .new as, σ, S => (evs as σ S).bind fun ds S => .ok (.ref S.length) (S ++ [.lst ds])
  | .newd, _, S => .ok (.ref S.length) (S ++ [.dct []])
  | .rgl tp a, σ, S => (ev a σ S).bind fun d S => lift ((rglD d).map fun xs => if tp then .tup xs else .lst xs) S
  | .pop o, σ, S => (ev o σ S).bind fun x S => popD x S
  | .rev a, σ, S => (ev a σ S).bind fun x S => lift (revD (see S x)) S
  | .sum2 a, σ, S => (ev a σ S).bind fun x S => lift (sum2D (see S x)) S
  | .sset a, σ, S => (ev a σ S).bind fun x S => lift (ssetD (see S x)) S
  | .smth b o a, σ, S => (ev o σ S).bind fun x S => if isStrD x then (ev a σ S).bind fun y S => lift (smthD b x (see S y)) S else .bad
  | .edct, _, S => .ok .edc S
  | .dlx kvs i, σ, S => (ev i σ S).bind fun y S => lift (dlxD kvs y) S
  | .lkeys o, σ, S => (ev o σ S).bind fun x S => lift ((dctAt S x).map fun q => .lst (q.2.map fun kv => kyD kv.1)) S
  | .newc a, σ, S => (ev a σ S).bind fun x S => match see S x with
    | .tup xs => .ok (.ref S.length) (S ++ [.lst xs])
    | .lst xs => .ok (.ref S.length) (S ++ [.lst xs])
    | _ => .bad
  | .comp e own tg s ifs, σ, S => (evi s σ S).bind fun its S =>
      (turns (fun x S => match asg tg x (clr σ own) with
        | none => .bad
        | some σ' => (evt ifs σ' S).bind fun b S => if b then (ev e σ' S).bind fun y S => .ok (some y) S else .ok none S) its S).bind fun ys S => .ok (.lst ys) S
def evs : Tms → Env → Store → Res (List D)
  | .nil, _, S => .ok [] S
  | .cons a r, σ, S => (ev a σ S).bind fun x S => (evs r σ S).bind fun xs S => .ok (x :: xs) S
/-- all tests hold -/
def evt : Tms → Env → Store → Res Bool
  | .nil, _, S => .ok true S
  | .cons a r, σ, S => (ev a σ S).bind fun x S => (match x with
    | .c (.bl true) => evt r σ S
    | .c (.bl false) => .ok false S
    | _ => .bad)
/-- the items that are gone through -/
def evi : Sr → Env → Store → Res (List D)
  | .seq a, σ, S => (ev a σ S).bind fun x S => lift (itemsOf x) S
  | .enum as, σ, S => (evs as σ S).bind fun ds S => lift (enumI ds) S
  | .zip as, σ, S => (evs as σ S).bind fun ds S => lift (zipI ds) S
  | .rng as, σ, S => (evs as σ S).bind fun ds S => lift (rngI ds) S
end
end
/-! ### what a clause's suite says -/
/-- a constant, the j-th field of what is caught, () -/
inductive Ha where
  | cst (k : Cst) | fld (j : Nat) | emp
inductive Ht where
  | at_ (x : Ha) | tup (xs : List Ha)
/-- cmpr: if a == b (ne: a != b): return k -/
inductive Hs where
  | ret (t : Ht) | cont | brk | pass | retN | set (i : Nat) (t : Ht) | cmpr (ne : Bool) (a b : Ht) (k : Cst) | par (i j : Nat) (t u : Ht)
/-- a clause: its class, the slot of its name, its suite -/
structure Clau where
  c : Nat
  nm : Option Nat
  h : Hs
def haD (as : List D) : Ha → Option D
  | .cst k => some (.c k)
  | .fld j => as[j]?
  | .emp => some (.tup [])
def haDs (as : List D) : List Ha → Option (List D)
  | [] => some []
  | x :: r => (haD as x).bind fun d => (haDs as r).map (d :: ·)
def htD (as : List D) : Ht → Option D
  | .at_ x => haD as x
  | .tup xs => (haDs as xs).map .tup
/-! ### statements -/
inductive Out where
  | nx (σ : Env) (S : Store)
  | ret (d : D) (S : Store)
  | brk (σ : Env) (S : Store)
  | cont (σ : Env) (S : Store)
  | ex (e : Ex) (σ : Env) (S : Store)
  | bad
mutual
inductive St where
  | set (tg : Tg) (t : Tm)
  /-- two or three names at once -/
  | par (is : List Nat) (ts : Tms)
  | setIx (o i t : Tm)
  /-- o[i], p[j] = t -/
  | swp (o i p j t : Tm)
  | aug (i : Nat) (op : BOp) (t : Tm)
  | augIx (o i : Tm) (op : BOp) (t : Tm)
  | expr (t : Tm)
  | ret (t : Tm)
  | retN
  | ife (t : Tm) (a b : Sts)
  | whil (t : Tm) (b : Sts)
  | for_ (tg : Tg) (s : Sr) (b : Sts)
  | brk
  | cont
  | pass
  /-- what is never come to -/
  | stop
  | raise (c : Nat) (as : Tms)
  /-- one except clause of a class, without a name -/
  | tryo (b : Sts) (c : Nat) (h : Sts)
  | tryx (b : Sts) (cl : List Clau)
inductive Sts where
  | nil
  | cons (a : St) (r : Sts)
end
/-- behind an expression -/
def Res.out {α : Type} (r : Res α) (σ : Env) (f : α → Store → Out) : Out := match r with
  | .ok a S => f a S
  | .ex e S => .ex e σ S
  | .bad => .bad
@[simp] theorem out_ok {α : Type} (a : α) (S : Store) (σ : Env) (f : α → Store → Out) : (Res.ok a S).out σ f = f a S := rfl
@[simp] theorem out_ex {α : Type} (e : Ex) (S : Store) (σ : Env) (f : α → Store → Out) : (Res.ex e S : Res α).out σ f = .ex e σ S := rfl
@[simp] theorem out_bad {α : Type} (σ : Env) (f : α → Store → Out) : (Res.bad : Res α).out σ f = .bad := rfl
def Out.next (o : Out) (f : Env → Store → Out) : Out := match o with
  | .nx σ S => f σ S
  | o => o
@[simp] theorem next_nx (σ : Env) (S : Store) (f : Env → Store → Out) : (Out.nx σ S).next f = f σ S := rfl
@[simp] theorem next_ret (d : D) (S : Store) (f : Env → Store → Out) : (Out.ret d S).next f = .ret d S := rfl
@[simp] theorem next_brk (σ : Env) (S : Store) (f : Env → Store → Out) : (Out.brk σ S).next f = .brk σ S := rfl
@[simp] theorem next_cont (σ : Env) (S : Store) (f : Env → Store → Out) : (Out.cont σ S).next f = .cont σ S := rfl
@[simp] theorem next_ex (e : Ex) (σ : Env) (S : Store) (f : Env → Store → Out) : (Out.ex e σ S).next f = .ex e σ S := rfl
@[simp] theorem next_bad (f : Env → Store → Out) : Out.bad.next f = .bad := rfl
/-- behind a loop's turn: g what follows, the rest of the loop -/
def Out.turn (o : Out) (g : Env → Store → Out) : Out := match o with
  | .nx σ S => g σ S
  | .cont σ S => g σ S
  | .brk σ S => .nx σ S
  | o => o
@[simp] theorem turn_nx (σ : Env) (S : Store) (f : Env → Store → Out) : (Out.nx σ S).turn f = f σ S := rfl
@[simp] theorem turn_cont (σ : Env) (S : Store) (f : Env → Store → Out) : (Out.cont σ S).turn f = f σ S := rfl
@[simp] theorem turn_brk (σ : Env) (S : Store) (f : Env → Store → Out) : (Out.brk σ S).turn f = .nx σ S := rfl
@[simp] theorem turn_ret (d : D) (S : Store) (f : Env → Store → Out) : (Out.ret d S).turn f = .ret d S := rfl
@[simp] theorem turn_ex (e : Ex) (σ : Env) (S : Store) (f : Env → Store → Out) : (Out.ex e σ S).turn f = .ex e σ S := rfl
@[simp] theorem turn_bad (f : Env → Store → Out) : Out.bad.turn f = .bad := rfl
/-- the most turns of a while -/
def FUEL : Nat := 1073741824
def loop (c : Env → Store → Res D) (b : Env → Store → Out) : Nat → Env → Store → Out
  | 0, _, _ => .bad
  | n + 1, σ, S => (c σ S).out σ fun x S => match x with
    | .c (.bl true) => (b σ S).turn (loop c b n)
    | .c (.bl false) => .nx σ S
    | _ => .bad
def forL (tg : Tg) (b : Env → Store → Out) : List D → Env → Store → Out
  | [], σ, S => .nx σ S
  | x :: xs, σ, S => match asg tg x σ with
    | none => .bad
    | some σ' => (b σ' S).turn (forL tg b xs)
def setAll : List Nat → List D → Env → Option Env
  | [], [], σ => some σ
  | i :: is, d :: ds, σ => if i < σ.length then setAll is ds (σ.set i (some d)) else none
  | _, _, _ => none
def refD : D → Bool
  | .ref _ => true
  | _ => false
def posD : D → Bool
  | .c (.int i) => decide (0 ≤ i)
  | _ => true
def getA (x y : D) (S : Store) : Option D := if refD x && posD y then idxD x y S else none
/-- a op= b: whole numbers -/
def augI : BOp → D → D → Option D
  | .add, .c (.int i), .c (.int j) => some (.int (i + j))
  | .sub, .c (.int i), .c (.int j) => some (.int (i - j))
  | _, _, _ => none
def putIx (x i v : D) (S : Store) : Option Store := match x with
  | .ref n => (match S[n]?, i with
    | some (.lst xs), .c (.int i) => (ixD xs.length i).map fun j => S.set n (.lst (xs.set j v))
    | some (.dct kvs), i => (keyOf i).bind fun k => if kvs.length < LINE then some (S.set n (.dct (putKy kvs k v))) else none
    | _, _ => none)
  | _ => none
def hexec (as : List D) : Hs → Env → Store → Out
  | .ret t, _, S => match htD as t with
    | some d => .ret d S
    | none => .bad
  | .cont, σ, S => .cont σ S
  | .brk, σ, S => .brk σ S
  | .pass, σ, S => .nx σ S
  | .retN, _, S => .ret .non S
  | .set i t, σ, S => match htD as t with
    | some d => if i < σ.length then .nx (σ.set i (some d)) S else .bad
    | none => .bad
  | .par i j t u, σ, S => match htD as t, htD as u with
    | some x, some y => if i < σ.length ∧ j < σ.length then .nx ((σ.set i (some x)).set j (some y)) S else .bad
    | _, _ => .bad
  | .cmpr ne a b k, σ, S => match htD as a, htD as b with
    | some x, some y => (match eqD? (see S x) (see S y) with
      | some r => if r = !ne then .ret (.c k) S else .nx σ S
      | none => .bad)
    | _, _ => .bad
/-- the clause's name is gone -/
def clrO : Option Nat → Env → Env
  | none, σ => σ
  | some i, σ => σ.set i none
def slotO : Option Nat → Env → Bool
  | none, _ => true
  | some i, σ => decide (i < σ.length)
def Out.gone (nm : Option Nat) : Out → Out
  | .nx σ S => .nx (clrO nm σ) S
  | .brk σ S => .brk (clrO nm σ) S
  | .cont σ S => .cont (clrO nm σ) S
  | o => o
/-- the first clause that is asked and fits -/
def clausX (sub : Nat → Nat → Bool) (e : Ex) : List Clau → Env → Store → Out
  | [], σ, S => .ex e σ S
  | q :: r, σ, S => if sub e.cls q.c then (if slotO q.nm σ then (hexec e.args q.h (clrO q.nm σ) S).gone q.nm else .bad) else clausX sub e r σ S
section
variable (G : Nat → Option D) (F : Cl) (sub : Nat → Nat → Bool)
mutual
def exec : St → Env → Store → Out
  | .set tg t, σ, S => (ev G F t σ S).out σ fun d S => match asg tg d σ with
    | some σ' => .nx σ' S
    | none => .bad
  | .par is ts, σ, S => (evs G F ts σ S).out σ fun ds S => match setAll is ds σ with
    | some σ' => .nx σ' S
    | none => .bad
  | .setIx o i t, σ, S => (ev G F t σ S).out σ fun v S => (ev G F o σ S).out σ fun x S => (ev G F i σ S).out σ fun y S => match putIx x y v S with
    | some S => .nx σ S
    | none => .bad
  | .swp o i p j t, σ, S => (ev G F t σ S).out σ fun d S => match d with
    | .tup [a, b] => (ev G F o σ S).out σ fun u S => (ev G F i σ S).out σ fun v S => (match putIx u v a S with
      | some S => (ev G F p σ S).out σ fun u S => (ev G F j σ S).out σ fun v S => (match putIx u v b S with
        | some S => .nx σ S
        | none => .bad)
      | none => .bad)
    | _ => .bad
  | .aug i op t, σ, S => match σ[i]? with
    | some (some x) => (ev G F t σ S).out σ fun y S => match augI op x y with
      | some d => .nx (σ.set i (some d)) S
      | none => .bad
    | _ => .bad
  | .augIx o i op t, σ, S => (ev G F o σ S).out σ fun x S => (ev G F i σ S).out σ fun y S => match getA x y S with
    | some z => (ev G F t σ S).out σ fun v S => match augI op z v with
      | some d => (match putIx x y d S with
        | some S => .nx σ S
        | none => .bad)
      | none => .bad
    | none => .bad
  | .expr t, σ, S => (ev G F t σ S).out σ fun _ S => .nx σ S
  | .ret t, σ, S => (ev G F t σ S).out σ fun d S => .ret d S
  | .retN, _, S => .ret .non S
  | .ife t a b, σ, S => (ev G F t σ S).out σ fun x S => match x with
    | .c (.bl true) => execs a σ S
    | .c (.bl false) => execs b σ S
    | _ => .bad
  | .whil t b, σ, S => loop (ev G F t) (execs b) FUEL σ S
  | .for_ tg s b, σ, S => (evi G F s σ S).out σ fun its S => forL tg (execs b) its σ S
  | .brk, σ, S => .brk σ S
  | .cont, σ, S => .cont σ S
  | .pass, σ, S => .nx σ S
  | .stop, _, _ => .bad
  | .raise c as, σ, S => (evs G F as σ S).out σ fun ds S => .ex ⟨c, ds.reverse⟩ σ S
  | .tryo b c h, σ, S => match execs b σ S with
    | .ex e σ' S' => if sub e.cls c then execs h σ' S' else .ex e σ' S'
    | o => o
  | .tryx b cl, σ, S => match execs b σ S with
    | .ex e σ' S' => clausX sub e cl σ' S'
    | o => o
def execs : Sts → Env → Store → Out
  | .nil, σ, S => .nx σ S
  | .cons a r, σ, S => (exec a σ S).next fun σ S => execs r σ S
end
end

structure Def where
  /-- how many slots it has -/
  slots : Nat
  /-- how many parameters -/
  params : Nat
  body : Sts

def start (n : Nat) (ds : List D) : Env := ds.map some ++ List.replicate (n - ds.length) none
section
variable (T : Nat → Option Def) (G : Nat → Option D) (sub : Nat → Nat → Bool)
def call : Nat → Cl
  | 0, _, _, _ => .bad
  | k + 1, f, ds, S => match T f with
    | none => .bad
    | some d => if ds.length = d.params then (match execs G (call k) sub d.body (start d.slots ds) S with
      | .ret v S' => .ok v S'
      | .nx _ S' => .ok .non S'
      | .ex e _ S' => .ex e S'
      | _ => .bad) else .bad
end
end Rf

set_option Elab.async false
set_option maxRecDepth 100000
/-! Rf, part B: what it means that values, the store and the slots stand in a heap. -/
namespace Rf
open PySem L2

def cV : Cst → V
  | .non => .non
  | .bl b => .bl b
  | .int i => .int i
  | .str x => .str x

/-- where fa keeps the script's place -/
def SCR : Nat := 1000000
/-- the script, or a list of the written part -/
def FzL (K : PySem.W.Frag) (fa : Nat → Option Addr) (H : Hp) (a : Addr) (vs : List V) : Prop := (fa SCR = some a ∧ ∃ o, H a = some (.frz o (.lst vs))) ∨ SqL K (fun _ => none) a vs
theorem FzL.sq {K : PySem.W.Frag} {fa : Nat → Option Addr} {H : Hp} {a : Addr} {vs : List V} (h : FzL K fa H a vs) : SqL K H a vs := by
  rcases h with ⟨_, o, h⟩ | h
  · exact .inl (.inr ⟨o, h⟩)
  · rcases h with (h | ⟨_, h⟩) | h
    · cases h
    · cases h
    · exact .inr h
section
variable (K : PySem.W.Frag) (fa : Nat → Option Addr)
mutual
/-- the value d stands as v in the heap H; m: where the store's objects stand -/
inductive Rp (m : List Addr) (H : Hp) : D → V → Prop
  | c (k : Cst) : Rp m H (.c k) (cV k)
  | tup {a : Addr} {vs : List V} {ds : List D} : SqT K H a vs → vs.length ≤ sizeLine → RpL m H ds vs → Rp m H (.tup ds) (.ref a)
  | lst {a : Addr} {vs : List V} {ds : List D} : H a = some (.lst vs) → a ∉ m → vs.length ≤ sizeLine → RpL m H ds vs → Rp m H (.lst ds) (.ref a)
  | edc {a : Addr} : H a = some (.dK []) → a ∉ m → Rp m H .edc (.ref a)
  | fz {a : Addr} {vs : List V} {ds : List D} : FzL K fa H a vs → vs.length ≤ sizeLine → RpL m H ds vs → Rp m H (.fz ds) (.ref a)
  | ptup {a : Addr} {o : Obj} {vs : List V} {ds : List D} : H a = some (.frz o (.tup vs)) → o.dict = none → vs.length ≤ sizeLine → RpL m H ds vs → Rp m H (.ptup ds) (.ref a)
  | ref {n : Nat} {a : Addr} : m[n]? = some a → Rp m H (.ref n) (.ref a)
  | fn {f : Nat} {a : Addr} : fa f = some a → f < SCR → Rp m H (.fn f) (.ref a)
  | ty (n : String) : Rp m H (.ty n) (.ty n)
inductive RpL (m : List Addr) (H : Hp) : List D → List V → Prop
  | nil : RpL m H [] []
  | cons {d : D} {ds : List D} {v : V} {vs : List V} : Rp m H d v → RpL m H ds vs → RpL m H (d :: ds) (v :: vs)
end
def kyK : Ky → Key
  | .int i => .inl i
  | .str x => .inr x
/-- an object of the store -/
def ObR (m : List Addr) (H : Hp) : Ob → HO → Prop
  | .lst ds, o => ∃ vs, o = .lst vs ∧ vs.length ≤ sizeLine ∧ RpL K fa m H ds vs
  | .dct kvs, o => ∃ ws, o = .dK ws ∧ ws.length ≤ sizeLine ∧ ws.map (·.1) = kvs.map (fun q => kyK q.1) ∧ RpL K fa m H (kvs.map (·.2)) (ws.map (·.2))
/-- the store -/
structure RS (m : List Addr) (S : Store) (H : Hp) : Prop where
  len : m.length = S.length
  nd : m.Nodup
  at_ : ∀ (n : Nat) (ob : Ob), S[n]? = some ob → ∃ a o, m[n]? = some a ∧ H a = some o ∧ ObR K fa m H ob o
/-- the slots -/
structure RE (m : List Addr) (H : Hp) (σ : Env) (τ : L2.St) : Prop where
  len : σ.length = τ.length
  at_ : ∀ (i : Nat) (d : D), σ[i]? = some (some d) → ∃ v, τ[i]? = some (some v) ∧ Rp K fa m H d v
  scr : ∀ a, fa SCR = some a → ∃ o u, H a = some (.frz o u)
end
/-- from one state to a later one: what is not the store's stays as it is; the store's new objects were not there -/
structure Gr (m : List Addr) (H : Hp) (m' : List Addr) (H' : Hp) : Prop where
  pre : m <+: m'
  keep : ∀ (a : Addr) (o : HO), H a = some o → a ∉ m → H' a = some o
  new : ∀ (a : Addr), a ∈ m' → a ∉ m → H a = none

theorem Gr.refl (m : List Addr) (H : Hp) : Gr m H m H := ⟨List.prefix_refl _, fun _ _ h _ => h, fun _ h h' => absurd h h'⟩
theorem Gr.trans {m m' m'' : List Addr} {H H' H'' : Hp} (a : Gr m H m' H') (b : Gr m' H' m'' H'') : Gr m H m'' H'' := by
  refine ⟨a.pre.trans b.pre, fun x o h n => ?_, fun x h n => ?_⟩
  · refine b.keep x o (a.keep x o h n) fun h' => ?_
    have e := a.new x h' n
    rw [h] at e
    cases e
  · by_cases h' : x ∈ m'
    · exact a.new x h' n
    · have e := b.new x h h'
      cases q : H x with
      | none => rfl
      | some o =>
        have e2 := a.keep x o q n
        rw [e] at e2
        cases e2

section
variable {K : PySem.W.Frag} {fa : Nat → Option Addr} {m m' : List Addr} {H H' : Hp} {S : Store}
theorem ObR.mut {ob : Ob} {o : HO} (h : ObR K fa m H ob o) : (∃ vs, o = .lst vs) ∨ ∃ ws, o = .dK ws := by
  cases ob with
  | lst ds => obtain ⟨vs, e, _⟩ := h; exact .inl ⟨vs, e⟩
  | dct kvs => obtain ⟨ws, e, _⟩ := h; exact .inr ⟨ws, e⟩
/-- what stands at an address of the store may change -/
theorem RS.mem (r : RS K fa m S H) {a : Addr} (h : a ∈ m) : (∃ vs, H a = some (.lst vs)) ∨ ∃ ws, H a = some (.dK ws) := by
  obtain ⟨n, hn, e⟩ := List.mem_iff_getElem.mp h
  have hn' : n < S.length := by rw [← r.len]; exact hn
  obtain ⟨b, o, h1, h2, h3⟩ := r.at_ n S[n] (List.getElem?_eq_getElem hn')
  rw [List.getElem?_eq_getElem hn, e] at h1
  cases h1
  rcases h3.mut with ⟨vs, rfl⟩ | ⟨ws, rfl⟩
  · exact .inl ⟨vs, h2⟩
  · exact .inr ⟨ws, h2⟩
theorem RS.rdT (r : RS K fa m S H) {a : Addr} {vs : List V} (h : Rd H a (.tup vs)) : a ∉ m := fun hm => by
  rcases r.mem hm with ⟨xs, e⟩ | ⟨ws, e⟩ <;> rcases h with h | ⟨o, h⟩ <;> (rw [e] at h; cases h)
theorem Gr.rd (g : Gr m H m' H') {a : Addr} {o : HO} (h : Rd H a o) (n : a ∉ m) : Rd H' a o := by
  rcases h with h | ⟨u, h⟩
  · exact .inl (g.keep a _ h n)
  · exact .inr ⟨u, g.keep a _ h n⟩
theorem Gr.sqT (g : Gr m H m' H') (r : RS K fa m S H) {a : Addr} {vs : List V} (h : SqT K H a vs) : SqT K H' a vs := by
  rcases h with h | h
  · exact .inl (g.rd h (r.rdT h))
  · exact .inr h
theorem rd_some {H : Hp} {a : Addr} {o : HO} (h : Rd H a o) : ∃ u, H a = some u := by
  rcases h with h | ⟨u, h⟩
  · exact ⟨_, h⟩
  · exact ⟨_, h⟩
theorem Gr.notin (g : Gr m H m' H') {a : Addr} {o : HO} (h : Rd H a o) (n : a ∉ m) : a ∉ m' := fun h' => by
  obtain ⟨u, e⟩ := rd_some h
  rw [g.new a h' n] at e
  cases e
theorem Gr.fz (g : Gr m H m' H') (r : RS K fa m S H) {a : Addr} {vs : List V} (h : FzL K fa H a vs) : FzL K fa H' a vs := by
  rcases h with ⟨e0, o, h⟩ | h
  · refine .inl ⟨e0, o, g.keep a _ h fun hm => ?_⟩
    rcases r.mem hm with ⟨xs, e⟩ | ⟨ws, e⟩ <;> (rw [e] at h; cases h)
  · exact .inr h
theorem pre_get {α : Type} {l l' : List α} {n : Nat} {a : α} (h : l <+: l') (e : l[n]? = some a) : l'[n]? = some a := by
  obtain ⟨t, rfl⟩ := h
  rw [List.getElem?_append_left (List.getElem?_eq_some_iff.mp e).1]
  exact e
mutual
theorem Rp.mono (g : Gr m H m' H') (r : RS K fa m S H) : ∀ {d : D} {v : V}, Rp K fa m H d v → Rp K fa m' H' d v
  | _, _, .c k => .c k
  | _, _, .tup h z hl => .tup (g.sqT r h) z (RpL.mono g r hl)
  | _, _, .lst h n z hl => .lst (g.keep _ _ h n) (g.notin (.inl h) n) z (RpL.mono g r hl)
  | _, _, .fz h z hl => .fz (g.fz r h) z (RpL.mono g r hl)
  | _, _, .ptup h hd z hl => .ptup (g.keep _ _ h fun hm => by rcases r.mem hm with ⟨xs, e⟩ | ⟨ws, e⟩ <;> (rw [e] at h; cases h)) hd z (RpL.mono g r hl)
  | _, _, .edc h n => .edc (g.keep _ _ h n) (g.notin (.inl h) n)
  | _, _, .ref h => .ref (pre_get g.pre h)
  | _, _, .fn h b => .fn h b
  | _, _, .ty n => .ty n
theorem RpL.mono (g : Gr m H m' H') (r : RS K fa m S H) : ∀ {ds : List D} {vs : List V}, RpL K fa m H ds vs → RpL K fa m' H' ds vs
  | _, _, .nil => .nil
  | _, _, .cons h t => .cons (Rp.mono g r h) (RpL.mono g r t)
end
theorem RE.mono (g : Gr m H m' H') (r : RS K fa m S H) {σ : Env} {τ : L2.St} (e : RE K fa m H σ τ) : RE K fa m' H' σ τ :=
  ⟨e.len, fun i d h => let ⟨v, h1, h2⟩ := e.at_ i d h; ⟨v, h1, h2.mono g r⟩, fun a h => let ⟨o, u, q⟩ := e.scr a h; ⟨o, u, g.keep a _ q fun hm => by
    rcases r.mem hm with ⟨xs, z⟩ | ⟨ws, z⟩ <;> (rw [z] at q; cases q)⟩⟩
theorem RpL.length : ∀ {ds : List D} {vs : List V}, RpL K fa m H ds vs → ds.length = vs.length
  | _, _, .nil => rfl
  | _, _, .cons _ t => congrArg (· + 1) (RpL.length t)
theorem RpL.get : ∀ {ds : List D} {vs : List V} {i : Nat} {d : D}, RpL K fa m H ds vs → ds[i]? = some d → ∃ v, vs[i]? = some v ∧ Rp K fa m H d v
  | _, _, _, _, .nil, h => by simp at h
  | _, _, 0, _, .cons h _, e => by simp at e; subst e; exact ⟨_, rfl, h⟩
  | _, _, i + 1, _, .cons _ t, e => by
    obtain ⟨v, h1, h2⟩ := RpL.get (i := i) t (by simpa using e)
    exact ⟨v, by simpa using h1, h2⟩
theorem RpL.getV : ∀ {ds : List D} {vs : List V} {i : Nat} {v : V}, RpL K fa m H ds vs → vs[i]? = some v → ∃ d, ds[i]? = some d ∧ Rp K fa m H d v
  | _, _, _, _, .nil, h => by simp at h
  | _, _, 0, _, .cons h _, e => by simp at e; subst e; exact ⟨_, rfl, h⟩
  | _, _, i + 1, _, .cons _ t, e => by
    obtain ⟨v, h1, h2⟩ := RpL.getV (i := i) t (by simpa using e)
    exact ⟨v, by simpa using h1, h2⟩
theorem RpL.append : ∀ {ds es : List D} {vs ws : List V}, RpL K fa m H ds vs → RpL K fa m H es ws → RpL K fa m H (ds ++ es) (vs ++ ws)
  | _, _, _, _, .nil, h => h
  | _, _, _, _, .cons h t, u => .cons h (RpL.append t u)
theorem RpL.take : ∀ {ds : List D} {vs : List V} (n : Nat), RpL K fa m H ds vs → RpL K fa m H (ds.take n) (vs.take n)
  | _, _, 0, _ => .nil
  | _, _, _ + 1, .nil => .nil
  | _, _, n + 1, .cons h t => .cons h (RpL.take n t)
theorem RpL.drop : ∀ {ds : List D} {vs : List V} (n : Nat), RpL K fa m H ds vs → RpL K fa m H (ds.drop n) (vs.drop n)
  | _, _, 0, h => h
  | _, _, _ + 1, .nil => .nil
  | _, _, n + 1, .cons _ t => RpL.drop n t
theorem RpL.set : ∀ {ds : List D} {vs : List V} (i : Nat) {d : D} {v : V}, Rp K fa m H d v → RpL K fa m H ds vs → RpL K fa m H (ds.set i d) (vs.set i v)
  | _, _, _, _, _, _, .nil => .nil
  | _, _, 0, _, _, r, .cons _ t => .cons r t
  | _, _, i + 1, _, _, r, .cons h t => .cons h (RpL.set i r t)
theorem RE.set {σ : Env} {τ : L2.St} (e : RE K fa m H σ τ) (i : Nat) {d : D} {v : V} (r : Rp K fa m H d v) : RE K fa m H (σ.set i (some d)) (τ.set i (some v)) := by
  refine ⟨by rw [List.length_set, List.length_set]; exact e.len, fun j x h => ?_, e.scr⟩
  by_cases hj : i = j
  · subst hj
    rw [List.getElem?_set] at h ⊢
    simp only [if_true] at h ⊢
    by_cases hl : i < σ.length
    · rw [if_pos hl] at h
      cases h
      exact ⟨v, by rw [if_pos (by rw [← e.len]; exact hl)], r⟩
    · rw [if_neg hl] at h
      cases h
  · rw [List.getElem?_set_ne hj] at h ⊢
    exact e.at_ j x h
theorem RE.clear {σ : Env} {τ : L2.St} (e : RE K fa m H σ τ) (i : Nat) : RE K fa m H (σ.set i none) (τ.set i none) := by
  refine ⟨by rw [List.length_set, List.length_set]; exact e.len, fun j x h => ?_, e.scr⟩
  by_cases hj : i = j
  · subst hj
    rw [List.getElem?_set] at h
    simp only [if_true] at h
    split at h <;> cases h
  · rw [List.getElem?_set_ne hj] at h ⊢
    exact e.at_ j x h
theorem RE.clr {σ : Env} {τ : L2.St} (e : RE K fa m H σ τ) : ∀ vs : List Nat, RE K fa m H (Rf.clr σ vs) (wipe τ vs)
  | [] => e
  | v :: vs => (RE.clr e vs).clear v
/-! ### a new object of the heap, of the store -/
theorem Gr.push {p : Addr} {o : HO} (hp : H p = none) : Gr m H m (upd H p o) :=
  ⟨List.prefix_refl _, fun a u h _ => by rw [upd_ne (ne_of_none h hp)]; exact h, fun _ h h' => absurd h h'⟩
theorem RS.keepAll (r : RS K fa m S H) (g : Gr m H m H') (k : ∀ a ∈ m, H' a = H a) : RS K fa m S H' := by
  refine ⟨r.len, r.nd, fun n ob h => ?_⟩
  obtain ⟨a, o, h1, h2, h3⟩ := r.at_ n ob h
  refine ⟨a, o, h1, by rw [k a (List.mem_of_getElem? h1)]; exact h2, ?_⟩
  cases ob with
  | lst ds => obtain ⟨vs, e, z, hl⟩ := h3; exact ⟨vs, e, z, hl.mono g r⟩
  | dct kvs => obtain ⟨ws, e, z, hk, hl⟩ := h3; exact ⟨ws, e, z, hk, hl.mono g r⟩
theorem RS.memSome (r : RS K fa m S H) {a : Addr} (h : a ∈ m) : ∃ o, H a = some o := by
  rcases r.mem h with ⟨_, e⟩ | ⟨_, e⟩ <;> exact ⟨_, e⟩
theorem RS.push (r : RS K fa m S H) {p : Addr} {o : HO} (hp : H p = none) : RS K fa m S (upd H p o) :=
  r.keepAll (Gr.push hp) fun a h => upd_ne (by
    obtain ⟨u, e⟩ := r.memSome h
    exact ne_of_none e hp)
theorem RS.fresh (r : RS K fa m S H) {p : Addr} (hp : H p = none) : p ∉ m := fun h => by
  obtain ⟨u, e⟩ := r.memSome h
  rw [hp] at e
  cases e
theorem Gr.alloc {p : Addr} {o : HO} (hp : H p = none) : Gr m H (m ++ [p]) (upd H p o) := by
  refine ⟨List.prefix_append _ _, fun a u h _ => by rw [upd_ne (ne_of_none h hp)]; exact h, fun a h h' => ?_⟩
  rcases List.mem_append.mp h with h | h
  · exact absurd h h'
  · rw [List.mem_singleton] at h
    rw [h]
    exact hp
theorem ObR.mono (g : Gr m H m' H') (r : RS K fa m S H) {ob : Ob} {o : HO} (h : ObR K fa m H ob o) : ObR K fa m' H' ob o := by
  cases ob with
  | lst ds => obtain ⟨vs, e, z, hl⟩ := h; exact ⟨vs, e, z, hl.mono g r⟩
  | dct kvs => obtain ⟨ws, e, z, hk, hl⟩ := h; exact ⟨ws, e, z, hk, hl.mono g r⟩
theorem RS.alloc (r : RS K fa m S H) {p : Addr} {o : HO} {ob : Ob} (hp : H p = none) (h : ObR K fa m H ob o) : RS K fa (m ++ [p]) (S ++ [ob]) (upd H p o) := by
  have g : Gr m H (m ++ [p]) (upd H p o) := Gr.alloc hp
  refine ⟨by rw [List.length_append, List.length_append, r.len]; rfl, ?_, fun n u e => ?_⟩
  · rw [List.nodup_append]
    refine ⟨r.nd, by simp, fun a ha b hb => ?_⟩
    rw [List.mem_singleton] at hb
    subst hb
    exact fun e => r.fresh hp (e ▸ ha)
  · by_cases hn : n < S.length
    · rw [List.getElem?_append_left hn] at e
      obtain ⟨a, w, h1, h2, h3⟩ := r.at_ n u e
      exact ⟨a, w, pre_get g.pre h1, by rw [upd_ne (ne_of_none h2 hp)]; exact h2, h3.mono g r⟩
    · rw [List.getElem?_append_right (by omega)] at e
      have hz : n - S.length = 0 := by
        cases q : n - S.length with
        | zero => rfl
        | succ j => rw [q] at e; simp at e
      rw [hz] at e
      cases (Option.some.inj e)
      refine ⟨p, o, ?_, upd_same, h.mono g r⟩
      rw [List.getElem?_append_right (by rw [r.len]; omega), show n - m.length = 0 by rw [r.len]; exact hz]
      rfl
/-- an object of the store changed -/
theorem Gr.write {n : Nat} {a : Addr} {o : HO} (h : m[n]? = some a) : Gr m H m (upd H a o) :=
  ⟨List.prefix_refl _, fun b u e hb => by
    have ne : b ≠ a := fun z => hb (by rw [z]; exact List.mem_of_getElem? h)
    rw [upd_ne ne]
    exact e, fun _ h h' => absurd h h'⟩
theorem nodup_at {l : List Addr} (h : l.Nodup) {i j : Nat} {a : Addr} (hi : l[i]? = some a) (hj : l[j]? = some a) : i = j := by
  obtain ⟨h1, e1⟩ := List.getElem?_eq_some_iff.mp hi
  obtain ⟨h2, e2⟩ := List.getElem?_eq_some_iff.mp hj
  exact (List.getElem_inj (h₀ := h1) (h₁ := h2) h).mp (e1.trans e2.symm)
theorem RS.write (r : RS K fa m S H) {n : Nat} {a : Addr} {o : HO} {ob : Ob} (hn : m[n]? = some a) (h : ObR K fa m H ob o) : RS K fa m (S.set n ob) (upd H a o) := by
  have g : Gr m H m (upd H a o) := Gr.write hn
  refine ⟨by rw [List.length_set]; exact r.len, r.nd, fun j u e => ?_⟩
  by_cases hj : n = j
  · subst hj
    have hl : n < S.length := by rw [← r.len]; exact (List.getElem?_eq_some_iff.mp hn).1
    rw [List.getElem?_set_self hl] at e
    cases Option.some.inj e
    exact ⟨a, o, hn, upd_same, h.mono g r⟩
  · rw [List.getElem?_set_ne hj] at e
    obtain ⟨b, w, h1, h2, h3⟩ := r.at_ j u e
    refine ⟨b, w, h1, ?_, h3.mono g r⟩
    have ne : b ≠ a := fun z => hj (nodup_at r.nd hn (by rw [← z]; exact h1))
    rw [upd_ne ne]
    exact h2
end
end Rf

set_option Elab.async false
set_option maxRecDepth 100000
set_option maxHeartbeats 1000000
/-! Rf, part C: the operators by values. -/
namespace Rf
open PySem PySem.Spec PyProof.Rows L2

theorem PE.weak {X : Cx} {e : Expr} {t t' : TE} (h : PE X e t) (w : ∀ σ H Q, t' σ H Q → t σ H Q) : PE X e t' := ⟨fun pins s σ H Q I q => h.run pins s σ H Q I (w σ H Q q)⟩
theorem PT.weak {X : Cx} {e : Expr} {t t' : TT} (h : PT X e t) (w : ∀ σ H Q, t' σ H Q → t σ H Q) : PT X e t' := ⟨fun pins s σ H Q I q => h.run pins s σ H Q I (w σ H Q q)⟩
theorem PW.weak {X : Cx} {e : Expr} {t t' : TT} (h : PW X e t) (w : ∀ σ H Q, t' σ H Q → t σ H Q) : PW X e t' := ⟨fun wh pins s σ H Q I q => h.run wh pins s σ H Q I (w σ H Q q)⟩
theorem PA.weak {X : Cx} {es : List Expr} {t t' : TA} (h : PA X es t) (w : ∀ σ H Q, t' σ H Q → t σ H Q) : PA X es t' := ⟨fun pos pins s σ H Q I q => h.run pos pins s σ H Q I (w σ H Q q)⟩
theorem PS.weak {X : Cx} {st : Stmt} {t t' : TS} (h : PS X st t) (w : ∀ D σ H, t' D σ H → t D σ H) : PS X st t' := ⟨fun pins s σ H D I q => h.run pins s σ H D I (w D σ H q)⟩
theorem PSs.weak {X : Cx} {st : List Stmt} {t t' : TS} (h : PSs X st t) (w : ∀ D σ H, t' D σ H → t D σ H) : PSs X st t' := ⟨fun pins s σ H D I q => h.run pins s σ H D I (w D σ H q)⟩
theorem PG.weak {X : Cx} {e : Expr} {t t' : TG} (h : PG X e t) (w : ∀ v σ H Q, t' v σ H Q → t v σ H Q) : PG X e t' := ⟨fun pins s σ H v u Q I r q => h.run pins s σ H v u Q I r (w v σ H Q q)⟩
theorem PI.or {X : Cx} {tg e : Expr} {t u : TI} (h : PI X tg e t) (h' : PI X tg e u) : PI X tg e (fun σ H R => t σ H R ∨ u σ H R) :=
  ⟨fun pins s σ H R I q => q.elim (h.run pins s σ H R I) (h'.run pins s σ H R I)⟩
theorem PI.weak {X : Cx} {tg e : Expr} {t t' : TI} (h : PI X tg e t) (w : ∀ σ H R, t' σ H R → t σ H R) : PI X tg e t' := ⟨fun pins s σ H R I q => h.run pins s σ H R I (w σ H R q)⟩

section
variable (K : PySem.W.Frag) (fa : Nat → Option Addr)
/-- an operation on two values, by what it makes of them -/
def R2of (op : D → D → Store → Option D) : R2 := fun x y H Q => ∃ m S a b d, RS K fa m S H ∧ Rp K fa m H a x ∧ Rp K fa m H b y ∧ op a b S = some d ∧ ∀ v H', Gr m H m H' → RS K fa m S H' → Rp K fa m H' d v → Q v H'
end
section
variable {X : Cx} {fa : Nat → Option Addr} {m : List Addr} {S : Store} {H : Hp}
theorem rp_int {i : Int} {v : V} (h : Rp X.K fa m H (.c (.int i)) v) : v = .int i := by cases h; rfl
theorem rp_bl {b : Bool} {v : V} (h : Rp X.K fa m H (.c (.bl b)) v) : v = .bl b := by cases h; rfl
theorem rp_str {x : Str} {v : V} (h : Rp X.K fa m H (.c (.str x)) v) : v = .str x := by cases h; rfl
theorem rp_non {v : V} (h : Rp X.K fa m H (.c .non) v) : v = .non := by cases h; rfl
theorem line_eq : LINE = sizeLine := rfl
/-- nothing has changed -/
theorem same {r : RS X.K fa m S H} {d : D} {v : V} {Q : VK} (q : ∀ v H', Gr m H m H' → RS X.K fa m S H' → Rp X.K fa m H' d v → Q v H') (h : Rp X.K fa m H d v) : Q v H := q v H (.refl m H) r h
/-- a new object at p -/
theorem fresh_tup {r : RS X.K fa m S H} {ds : List D} {vs : List V} {Q : VK} {p : Addr} (q : ∀ v H', Gr m H m H' → RS X.K fa m S H' → Rp X.K fa m H' (.tup ds) v → Q v H') (hp : H p = none) (hz : vs.length ≤ sizeLine) (h : RpL X.K fa m H ds vs) : Q (.ref p) (upd H p (.tup vs)) :=
  q _ _ (Gr.push hp) (r.push hp) (.tup (.inl (.inl upd_same)) hz (h.mono (Gr.push hp) r))
theorem fresh_lst {r : RS X.K fa m S H} {ds : List D} {vs : List V} {Q : VK} {p : Addr} (q : ∀ v H', Gr m H m H' → RS X.K fa m S H' → Rp X.K fa m H' (.lst ds) v → Q v H') (hp : H p = none) (hz : vs.length ≤ sizeLine) (h : RpL X.K fa m H ds vs) : Q (.ref p) (upd H p (.lst vs)) :=
  q _ _ (Gr.push hp) (r.push hp) (.lst upd_same (r.fresh hp) hz (h.mono (Gr.push hp) r))
theorem mulOk_of {i j : Int} (h : mulOk i j = true) : CMul i j := by
  unfold mulOk at h
  simp only [Bool.or_eq_true, Bool.and_eq_true, decide_eq_true_eq] at h
  exact h
theorem flat_rep (j : Nat) (vs : List V) (ds : List D) (h : RpL X.K fa m H ds vs) : RpL X.K fa m H (List.replicate j ds).flatten (List.replicate j vs).flatten := by
  induction j with
  | zero => exact .nil
  | succ j ih => rw [List.replicate_succ, List.replicate_succ, List.flatten_cons, List.flatten_cons]; exact h.append ih


theorem op_addD : OpR X (binaryOp .Add) (R2of X.K fa fun a b _ => addD a b) := by
  intro pins s σ H x y v u Q I rx ry h
  obtain ⟨m, S, a, b, d, rs, ra, rb, e, q⟩ := h
  have e : addD a b = some d := e
  unfold addD at e
  split at e
  · cases e
    cases rp_int ra; cases rp_int rb
    exact op_add pins s σ H _ _ v u Q I rx ry ⟨_, _, rfl, rfl, same (r := rs) q (.c _)⟩
  · split at e <;> cases e
    rename_i hz
    cases rp_str ra; cases rp_str rb
    exact op_add_str pins s σ H _ _ v u Q I rx ry ⟨_, _, rfl, rfl, hz, same (r := rs) q (.c _)⟩
  · split at e <;> cases e
    rename_i hz
    cases ra with
    | tup t1 z1 l1 =>
      cases rb with
      | tup t2 z2 l2 =>
        rw [l1.length, l2.length] at hz
        refine op_catA pins s σ H _ _ v u Q I rx ry ⟨_, _, _, _, rfl, rfl, t1, t2, hz, fun h => ?_, fun h h' => ?_, fun h h' p hp => ?_⟩
        · refine same (r := rs) q (.tup t2 z2 ?_)
          subst h
          cases l1
          exact l2
        · refine same (r := rs) q (.tup t1 z1 ?_)
          subst h'
          cases l2
          rw [List.append_nil]
          exact l1
        · exact fresh_tup (r := rs) q hp (by rw [List.length_append]; exact hz) (l1.append l2)
  · split at e <;> cases e
    rename_i hz
    cases ra with
    | lst t1 n1 z1 l1 =>
      cases rb with
      | lst t2 n2 z2 l2 =>
        rw [l1.length, l2.length] at hz
        exact op_cat pins s σ H _ _ v u Q I rx ry ⟨_, _, _, _, rfl, rfl, t1, t2, hz, fun p hp => fresh_lst (r := rs) q hp (by rw [List.length_append]; exact hz) (l1.append l2)⟩
  · cases e
theorem op_subD : OpR X (binaryOp .Sub) (R2of X.K fa fun a b _ => subD a b) := by
  intro pins s σ H x y v u Q I rx ry h
  obtain ⟨m, S, a, b, d, rs, ra, rb, e, q⟩ := h
  have e : subD a b = some d := e
  unfold subD at e
  split at e <;> cases e
  cases rp_int ra; cases rp_int rb
  exact op_sub pins s σ H _ _ v u Q I rx ry ⟨_, _, rfl, rfl, same (r := rs) q (.c _)⟩
/-- (x, ..) * n, a million at most -/
theorem op_repB : OpR X (binaryOp .Mult) (fun x y H Q => ∃ l k xs, x = .ref l ∧ y = .int k ∧ SqT X.K H l xs ∧ xs ≠ [] ∧ 2 ≤ k ∧ xs.length * k.toNat ≤ 1000000 ∧ ∀ p, H p = none → Q (.ref p) (upd H p (.tup (List.replicate k.toNat xs).flatten))) := by
  intro pins s σ H x y v u Q I rx ry h
  obtain ⟨l, k, xs, rfl, rfl, hT, hne, h1, hz, q⟩ := h
  cases rx
  obtain ⟨t, rfl⟩ := ry
  obtain ⟨its, r, ⟨⟨cls, dd, data, sl⟩, ho, hc, n, hd⟩, hs⟩ := I.tuple hT
  simp only at hc hd
  subst hc hd
  have len : its.length = xs.length := r.length.symm
  have ne : its ≠ [] := fun e => hne (List.eq_nil_of_length_eq_zero (by rw [← len, e]; rfl))
  have emp : its.toArray.isEmpty = false := by
    cases its with
    | nil => exact absurd rfl ne
    | cons a b => rfl
  have kk : ((k.toNat : Nat) : Int) = k := Int.toNat_of_nonneg (by omega)
  have pos : 1 ≤ xs.length := by
    cases xs with
    | nil => exact absurd rfl hne
    | cons _ _ => simp
  have kb : k.toNat ≤ 1000000 := Nat.le_trans (by have := Nat.mul_le_mul_right k.toNat pos; omega) hz
  have big : ((its.toArray.size : Nat) : Int) * k ≤ 1000000 := by
    rw [List.size_toArray, len, ← kk]
    have z : ((xs.length * k.toNat : Nat) : Int) ≤ ((1000000 : Nat) : Int) := Int.ofNat_le.mpr hz
    rw [Int.natCast_mul] at z
    exact z
  have flat : (List.replicate k.toNat its).flatten.length ≤ sizeLine := by
    rw [PyProof.Rows.lm_len_rep_flat, len, sizeLine_eq, Nat.mul_comm]
    omega
  have d0 : (decide (k < -(2 ^ 63)) || decide (k ≥ 2 ^ 63)) = false := by
    rw [decide_eq_false (by omega), decide_eq_false (by omega)]
    rfl
  have d1 : (its.toArray.isEmpty || k == 1) = false := by
    rw [emp, Bool.false_or]
    exact beq_eq_false_iff_ne.mpr (by omega)
  have d2 : (decide (k ≤ 0) || its.toArray.isEmpty) = false := by
    rw [emp, Bool.or_false]
    exact decide_eq_false (by omega)
  have d3 : Builtin.Tuple.tupleTooMany (((its.toArray.size : Nat) : Int) * k) = false := by
    unfold Builtin.Tuple.tupleTooMany
    rw [sizeLine_eq]
    exact decide_eq_false (by omega)
  have rule : argsOk "int.__rmul__" ⟨[.int k t, .ref l], []⟩ := F.args_int_rmul_2 _ _
  refine wpAny_binaryOp_repeat_ref (T := "tuple") (U := "int") (by decide) ⟨_, ho, rfl⟩ (fun z => typeIs_int z k t) noFill_tuple_mul F.fills_int_mul F.slot_int_rmul repeat_tuple F.slot_int_index.lookup
    (call_meets F.slot_int_rmul (typeIs_int s k t) F.entry_int_rmul rule (int_rmul_tuple k t l its.toArray n dd sl) ⟨ho, rfl, ⟨_, ho, rfl⟩, call_meets F.slot_tuple_mul ⟨_, ho, rfl⟩ F.entry_tuple_mul (F.args_tuple_mul_2 _ _)
      (tuple_mulW l its.toArray n dd sl k t d0 d1 d2 (by omega) d3 (by rw [size_rep, List.size_toArray]; exact flat)) ⟨ho, ?_⟩⟩)
  rw [size_rep]
  have fl2 : (List.replicate k.toNat xs).flatten.length ≤ sizeLine := by
    rw [PyProof.Rows.lm_len_rep_flat, sizeLine_eq, Nat.mul_comm]
    omega
  exact ⟨.ref s.heap.objs.size, _, I.laid (t' := s.toks) (o := .tup (List.replicate k.toNat xs).flatten) (fun b ob z => Heap.get?_push_of_some _ z) (Nat.le_refl _) ⟨fl2, _, r.rep k.toNat, IsTup.new _ _⟩, rfl, q _ (I.hok.fresh (Nat.le_refl _))⟩
/-- a text, so often -/
theorem op_strRep : OpR X (binaryOp .Mult) (fun x y H Q => ∃ a k, x = .str a ∧ y = .int k ∧ 2 ≤ k ∧ 1 ≤ a.length ∧ a.length * k.toNat ≤ 1000000 ∧ Q (.str ⟨(List.replicate k.toNat a.cps).foldl (· ++ ·) #[]⟩) H) := by
  intro pins s σ H x y v u Q I rx ry h
  obtain ⟨a, k, rfl, rfl, h1, h2, hz, q⟩ := h
  obtain ⟨t, rfl⟩ := rx
  obtain ⟨t', rfl⟩ := ry
  have kk : ((k.toNat : Nat) : Int) = k := Int.toNat_of_nonneg (by omega)
  have kb : k.toNat ≤ 1000000 := Nat.le_trans (by have := Nat.mul_le_mul_right k.toNat h2; omega) hz
  have lb : a.length ≤ 1000000 := Nat.le_trans (by have := Nat.mul_le_mul_left a.length (show 1 ≤ k.toNat by omega); omega) hz
  have tl : PySem.Builtin.Str.tooLong (a.length * k.toNat) = false := by
    unfold PySem.Builtin.Str.tooLong
    exact decide_eq_false (by first | omega | (rw [sizeLine_eq]; omega) | (unfold sizeLine; omega))
  refine PySem.P.mul_str (by rw [decide_eq_false (by omega), decide_eq_false (by omega)]; rfl) (fun _ _ => ?_) (fun _ _ => tl) ?_
  · have : (1000000 : Int) ≤ (2 ^ 63 - 1) / k := (Int.le_ediv_iff_mul_le (by omega)).mpr (by omega)
    omega
  · rw [if_neg (by omega), if_neg (by
      rw [Bool.or_eq_true, beq_iff_eq, beq_iff_eq]
      omega)]
    exact ⟨fits_reps tl, .str _, H, I.tok _, ⟨_, rfl⟩, q⟩
theorem op_mulD : OpR X (binaryOp .Mult) (R2of X.K fa fun a b _ => mulD a b) := by
  intro pins s σ H x y v u Q I rx ry h
  obtain ⟨m, S, a, b, d, rs, ra, rb, e, q⟩ := h
  have e : mulD a b = some d := e
  unfold mulD at e
  split at e
  · split at e <;> cases e
    rename_i hz
    cases rp_int ra; cases rp_int rb
    exact op_mul pins s σ H _ _ v u Q I rx ry ⟨_, _, rfl, rfl, mulOk_of hz, same (r := rs) q (.c _)⟩
  · split at e <;> cases e
    rename_i hz
    obtain ⟨h1, h2, hz⟩ := hz
    cases rp_str ra; cases rp_int rb
    exact op_strRep pins s σ H _ _ v u Q I rx ry ⟨_, _, rfl, rfl, h1, h2, hz, same (r := rs) q (.c (.str _))⟩
  · split at e <;> cases e
    rename_i j hz
    obtain ⟨hz, h1, h2⟩ := hz
    cases rp_int rb
    cases ra with
    | lst t1 n1 z1 l1 =>
      have hz' := hz
      rw [l1.length] at hz'
      refine op_rep pins s σ H _ _ v u Q I rx ry ⟨_, _, _, rfl, rfl, t1, h1, h2, hz', fun p hp => fresh_lst (r := rs) q hp ?_ (flat_rep _ _ _ l1)⟩
      rw [List.length_flatten, List.map_replicate, List.sum_replicate_nat, Nat.mul_comm]
      exact hz'
  · rename_i xs j eo
    cases rp_int rb
    cases ra with
    | tup t1 z1 l1 =>
      split at e
      · rename_i hj
        subst hj
        cases e
        exact op_once pins s σ H _ _ v u Q I rx ry ⟨_, _, rfl, rfl, t1, same (r := rs) q (.tup t1 z1 l1)⟩
      · split at e
        · rename_i hz
          cases e
          obtain ⟨hne, h1, h3⟩ := hz
          have hl := l1.length
          exact op_none pins s σ H _ _ v u Q I rx ry ⟨_, _, _, rfl, rfl, t1, fun z => hne (by rw [z] at hl; exact List.eq_nil_of_length_eq_zero hl), h1, h3, fun p hp => fresh_tup (r := rs) q hp (Nat.zero_le _) .nil⟩
        split at e <;> cases e
        rename_i hz
        obtain ⟨hne, h1, h3⟩ := hz
        have hl := l1.length
        refine op_repB pins s σ H _ _ v u Q I rx ry ⟨_, _, _, rfl, rfl, t1, fun z => hne (by rw [z] at hl; exact List.eq_nil_of_length_eq_zero hl), h1, by rw [← hl]; exact h3, fun p hp => fresh_tup (r := rs) q hp ?_ (flat_rep _ _ _ l1)⟩
        rw [List.length_flatten, List.map_replicate, List.sum_replicate_nat, sizeLine_eq]
        rw [← hl, Nat.mul_comm]
        omega
  · cases e
theorem op_divD : OpR X (binaryOp .FloorDiv) (R2of X.K fa fun a b _ => divD a b) := by
  intro pins s σ H x y v u Q I rx ry h
  obtain ⟨m, S, a, b, d, rs, ra, rb, e, q⟩ := h
  have e : divD a b = some d := e
  unfold divD at e
  split at e
  · split at e <;> cases e
    rename_i hz
    cases rp_int ra; cases rp_int rb
    exact op_fdiv pins s σ H _ _ v u Q I rx ry ⟨_, _, rfl, rfl, hz, same (r := rs) q (.c _)⟩
  · cases e
theorem op_modD : OpR X (binaryOp .Mod) (R2of X.K fa fun a b _ => modD a b) := by
  intro pins s σ H x y v u Q I rx ry h
  obtain ⟨m, S, a, b, d, rs, ra, rb, e, q⟩ := h
  have e : modD a b = some d := e
  unfold modD at e
  split at e
  · split at e <;> cases e
    rename_i hz
    cases rp_int ra; cases rp_int rb
    exact op_mod pins s σ H _ _ v u Q I rx ry ⟨_, _, rfl, rfl, hz, same (r := rs) q (.c _)⟩
  · cases e
theorem op_powD : OpR X (binaryOp .Pow) (R2of X.K fa fun a b _ => powD a b) := by
  intro pins s σ H x y v u Q I rx ry h
  obtain ⟨m, S, a, b, d, rs, ra, rb, e, q⟩ := h
  have e : powD a b = some d := e
  unfold powD at e
  split at e
  · split at e <;> cases e
    rename_i hz
    cases rp_int ra; cases rp_int rb
    exact op_pow pins s σ H _ _ v u Q I rx ry ⟨_, _, rfl, rfl, hz, same (r := rs) q (.c _)⟩
  · cases e

/-! ### data, == -/
mutual
theorem Rp.dp : ∀ {d : D} {v : V}, Rp X.K fa m H d v → plnD d = true → Dp X.K H v (toPy d)
  | .c .non, _, .c _, _ => .non
  | .c (.bl b), _, .c _, _ => .bl b
  | .c (.int i), _, .c _, _ => .int i
  | .c (.str x), _, .c _, _ => .str x
  | .tup ds, _, .tup h _ l, p => .tup h (RpL.dp l (by simpa [plnD] using p))
  | .lst ds, _, .lst h _ _ l, p => .lst (.of h) (RpL.dp l (by simpa [plnD] using p))
  | .ref _, _, _, p => by simp [plnD] at p
  | .fn _, _, _, p => by simp [plnD] at p
  | .ty _, _, _, p => by simp [plnD] at p
  | .fz _, _, _, p => by simp [plnD] at p
  | .ptup _, _, _, p => by simp [plnD] at p
  | .edc, _, _, p => by simp [plnD] at p
theorem RpL.dp : ∀ {ds : List D} {vs : List V}, RpL X.K fa m H ds vs → plnDs ds = true → DpAll X.K H vs (toPys ds)
  | [], _, .nil, _ => .nil
  | d :: ds, _, .cons h t, p => by
    rw [plnDs, Bool.and_eq_true] at p
    exact .cons (Rp.dp h p.1) (RpL.dp t p.2)
end
mutual
theorem eqD_py : ∀ a b : D, plnD a = true → plnD b = true → PyData.eqv (toPy a) (toPy b) = eqD a b
  | .c .non, .c k, _, _ => by cases k <;> rfl
  | .c (.bl a), .c k, _, _ => by
    cases k with
    | int j => simp [toPy, PyData.eqv, eqD]; cases a <;> simp [Bool.beq_eq_decide_eq]
    | _ => rfl
  | .c (.int i), .c k, _, _ => by
    cases k with
    | bl b => simp [toPy, PyData.eqv, eqD]; cases b <;> simp [Bool.beq_eq_decide_eq]
    | int j => simp [toPy, PyData.eqv, eqD, Bool.beq_eq_decide_eq]
    | _ => rfl
  | .c (.str x), .c k, _, _ => by
    cases k with
    | str y => simp [toPy, PyData.eqv, eqD, Bool.beq_eq_decide_eq]
    | _ => rfl
  | .c k, .tup ys, _, _ => by cases k <;> rfl
  | .c k, .lst ys, _, _ => by cases k <;> rfl
  | .tup xs, .c k, _, _ => by cases k <;> rfl
  | .lst xs, .c k, _, _ => by cases k <;> rfl
  | .tup xs, .lst ys, _, _ => rfl
  | .lst xs, .tup ys, _, _ => rfl
  | .tup xs, .tup ys, p, q => by
    rw [plnD] at p q
    simp only [toPy, PyData.eqv, eqD]
    exact eqDs_py xs ys p q
  | .lst xs, .lst ys, p, q => by
    rw [plnD] at p q
    simp only [toPy, PyData.eqv, eqD]
    exact eqDs_py xs ys p q
  | .ref _, _, p, _ => by simp [plnD] at p
  | .fn _, _, p, _ => by simp [plnD] at p
  | .ty _, _, p, _ => by simp [plnD] at p
  | .fz _, _, p, _ => by simp [plnD] at p
  | .ptup _, _, p, _ => by simp [plnD] at p
  | .edc, _, p, _ => by simp [plnD] at p
  | _, .ref _, _, p => by simp [plnD] at p
  | _, .fn _, _, p => by simp [plnD] at p
  | _, .ty _, _, p => by simp [plnD] at p
  | _, .fz _, _, p => by simp [plnD] at p
  | _, .ptup _, _, p => by simp [plnD] at p
  | _, .edc, _, p => by simp [plnD] at p
theorem eqDs_py : ∀ a b : List D, plnDs a = true → plnDs b = true → PyData.eqvAll (toPys a) (toPys b) = eqDs a b
  | [], [], _, _ => rfl
  | [], _ :: _, _, _ => rfl
  | _ :: _, [], _, _ => rfl
  | x :: xs, y :: ys, p, q => by
    rw [plnDs, Bool.and_eq_true] at p q
    simp only [toPys, PyData.eqvAll, eqDs]
    rw [eqD_py x y p.1 q.1, eqDs_py xs ys p.2 q.2]
end
mutual
theorem sgD_py : ∀ d : D, plnD d = true → sgD d = true → PyData.canLay0 (toPy d) = true
  | .c .non, _, _ => rfl
  | .c (.bl b), _, _ => rfl
  | .c (.int i), _, _ => rfl
  | .c (.str x), _, h => h
  | .tup ds, p, h => by simp only [toPy, PyData.canLay0]; exact sgDs_py ds (by simpa [plnD] using p) (by simpa [sgD] using h)
  | .lst ds, p, h => by simp only [toPy, PyData.canLay0]; exact sgDs_py ds (by simpa [plnD] using p) (by simpa [sgD] using h)
  | .ref _, p, _ => by simp [plnD] at p
  | .fn _, p, _ => by simp [plnD] at p
  | .ty _, p, _ => by simp [plnD] at p
  | .fz _, p, _ => by simp [plnD] at p
  | .ptup _, p, _ => by simp [plnD] at p
  | .edc, p, _ => by simp [plnD] at p
theorem sgDs_py : ∀ d : List D, plnDs d = true → sgDs d = true → PyData.canLayAll0 (toPys d) = true
  | [], _, _ => rfl
  | x :: xs, p, h => by
    rw [plnDs, Bool.and_eq_true] at p
    rw [sgDs, Bool.and_eq_true] at h
    simp only [toPys, PyData.canLayAll0, Bool.and_eq_true]
    exact ⟨sgD_py x p.1 h.1, sgDs_py xs p.2 h.2⟩
end
mutual
theorem depD_py : ∀ d : D, plnD d = true → (toPy d).depth = depD d
  | .c .non, _ => rfl
  | .c (.bl b), _ => rfl
  | .c (.int i), _ => rfl
  | .c (.str x), _ => rfl
  | .tup ds, p => by simp only [toPy, PyData.depth, depD]; rw [depDs_py ds (by simpa [plnD] using p)]
  | .lst ds, p => by simp only [toPy, PyData.depth, depD]; rw [depDs_py ds (by simpa [plnD] using p)]
  | .ref _, p => by simp [plnD] at p
  | .fn _, p => by simp [plnD] at p
  | .ty _, p => by simp [plnD] at p
  | .fz _, p => by simp [plnD] at p
  | .ptup _, p => by simp [plnD] at p
  | .edc, p => by simp [plnD] at p
theorem depDs_py : ∀ d : List D, plnDs d = true → PyData.depthAll (toPys d) = depDs d
  | [], _ => rfl
  | x :: xs, p => by
    rw [plnDs, Bool.and_eq_true] at p
    simp only [toPys, PyData.depthAll, depDs]
    rw [depD_py x p.1, depDs_py xs p.2]
end
theorem eqOk_pln {d : D} (h : eqOk d = true) : plnD d = true ∧ SeqAt.shaped (toPy d) = true := by
  unfold eqOk at h
  simp only [Bool.and_eq_true, decide_eq_true_eq] at h
  obtain ⟨⟨h1, h2⟩, h3⟩ := h
  refine ⟨h1, ?_⟩
  unfold SeqAt.shaped
  rw [Bool.and_eq_true, decide_eq_true_eq, depD_py d h1]
  exact ⟨sgD_py d h1 h2, h3⟩

/-! ### what is seen -/
/-- a list that is read: it stands somewhere -/
theorem see_lst {d : D} {v : V} {xs : List D} (rs : RS X.K fa m S H) (r : Rp X.K fa m H d v) (e : see S d = .lst xs) : ∃ a vs, v = .ref a ∧ H a = some (.lst vs) ∧ vs.length ≤ sizeLine ∧ RpL X.K fa m H xs vs := by
  unfold see at e
  split at e
  · split at e
    · cases e
      rename_i hs
      cases r with
      | ref h =>
        obtain ⟨a, o, h1, h2, h3⟩ := rs.at_ _ _ hs
        rw [h] at h1
        cases h1
        obtain ⟨vs, rfl, z, l⟩ := h3
        exact ⟨_, vs, rfl, h2, z, l⟩
    · cases e
  · subst e
    cases r with
    | lst h n z l => exact ⟨_, _, rfl, h, z, l⟩
theorem see_not {d d' : D} (e : see S d = d') (h : ∀ xs, d' ≠ .lst xs) (h2 : ∀ n, d' ≠ .ref n) : d = d' := by
  unfold see at e
  split at e
  · split at e
    · exact absurd e.symm (h _)
    · exact absurd e.symm (h2 _)
  · exact e
theorem see_tup {d : D} {xs : List D} (e : see S d = .tup xs) : d = .tup xs := see_not e (fun _ h => by cases h) (fun _ h => by cases h)
theorem see_c {d : D} {k : Cst} (e : see S d = .c k) : d = .c k := see_not e (fun _ h => by cases h) (fun _ h => by cases h)
theorem see_fz {d : D} {xs : List D} (e : see S d = .fz xs) : d = .fz xs := see_not e (fun _ h => by cases h) (fun _ h => by cases h)
theorem see_dp {d : D} {v : V} (rs : RS X.K fa m S H) (r : Rp X.K fa m H d v) (p : plnD (see S d) = true) : Dp X.K H v (toPy (see S d)) := by
  generalize e : see S d = d' at p ⊢
  cases d' with
  | c k => cases see_c e; exact r.dp p
  | tup xs => cases see_tup e; exact r.dp p
  | lst xs =>
    obtain ⟨a, vs, rfl, h1, h2, h3⟩ := see_lst rs r e
    exact .lst (.of h1) (RpL.dp h3 (by simpa [plnD] using p))
  | _ => simp [plnD] at p
theorem see_non {d : D} : isNon (see S d) = isNon d := by
  unfold see
  split
  · split <;> rfl
  · rfl
/-! ### comparisons -/
section
variable (K : PySem.W.Frag) (fa : Nat → Option Addr)
/-- a comparison of two values, as they are seen -/
def R2b (op : D → D → Option Bool) : R2 := fun x y H Q => ∃ m S a b d, RS K fa m S H ∧ Rp K fa m H a x ∧ Rp K fa m H b y ∧ op (see S a) (see S b) = some d ∧ Q (.bl d) H
end
theorem eqS_str {a b : D} {r : Bool} (e : eqS a b = some r) : (∃ x y, a = .c (.str x) ∧ b = .c (.str y) ∧ r = decide (x = y)) ∨ ∃ xs ys, a = .lst xs ∧ b = .lst ys ∧ xs.length ≠ ys.length ∧ r = false := by
  unfold eqS at e
  split at e
  · cases e; exact .inl ⟨_, _, rfl, rfl, rfl⟩
  · split at e
    · cases e
    · rename_i h
      cases e; exact .inr ⟨_, _, rfl, rfl, h, rfl⟩
  · cases e
/-- two lists of unlike lengths -/
theorem lists_far {σ : L2.St} {s : Shared} {pins : List (Addr × Obj)} {v u : Value} {x y : V} {m : List Addr} {S : Store} {a b : D} {xs ys : List D} (I : Inv X pins σ H s) (rs : RS X.K fa m S H) (ra : Rp X.K fa m H a x) (rb : Rp X.K fa m H b y) (rx : RelV x v) (ry : RelV y u)
    (e1 : see S a = .lst xs) (e2 : see S b = .lst ys) (hn : xs.length ≠ ys.length) : ∃ p q is js, v = .ref p ∧ u = .ref q ∧ s.heap.IsList p is ∧ s.heap.IsList q js ∧ (is.size != js.size) = true := by
  obtain ⟨p, vs, rfl, h1, h2, h3⟩ := see_lst rs ra e1
  obtain ⟨q, us, rfl, k1, k2, k3⟩ := see_lst rs rb e2
  cases rx
  cases ry
  obtain ⟨is, r1, l1, _⟩ := I.list (.of h1)
  obtain ⟨js, r2, l2, _⟩ := I.list (.of k1)
  refine ⟨p, q, _, _, rfl, rfl, l1.isList, l2.isList, ?_⟩
  have z1 := r1.length
  have z2 := r2.length
  have z3 := RpL.length h3
  have z4 := RpL.length k3
  simp only [List.size_toArray, bne_iff_ne]
  omega
theorem op_eqDD (hu : X.A.units + 64 < cLine) : OpR X (compareOp .Eq) (R2b X.K fa eqD?) := by
  intro pins s σ H x y v u Q I rx ry h
  obtain ⟨m, S, a, b, d, rs, ra, rb, e, q⟩ := h
  unfold eqD? at e
  split at e
  case isFalse =>
    rcases eqS_str e with ⟨x', y', e1, e2, rfl⟩ | ⟨xs, ys, e1, e2, hn, rfl⟩
    case inr =>
      obtain ⟨p, t, is, js, rfl, rfl, l1, l2, hz⟩ := lists_far I rs ra rb rx ry e1 e2 hn
      exact PySem.SeqAt.RcAt.lists_lengths l1 l2 hz (by omega) _ _ _ _ ⟨.bl _, H, I, rfl, q⟩
    cases see_c e1
    cases see_c e2
    cases ra
    cases rb
    exact op_eq pins s σ H _ _ v u Q I rx ry ⟨rfl, by simpa [cV] using q⟩
  cases e
  rename_i hk
  rw [Bool.and_eq_true] at hk
  obtain ⟨p1, s1⟩ := eqOk_pln hk.1
  obtain ⟨p2, s2⟩ := eqOk_pln hk.2
  exact op_eqD hu pins s σ H _ _ v u Q I rx ry ⟨_, _, see_dp rs ra p1, see_dp rs rb p2, s1, s2, by rw [eqD_py _ _ p1 p2]; exact q⟩
theorem op_neDD (hu : X.A.units + 64 < cLine) : OpR X (compareOp .NotEq) (R2b X.K fa fun a b => (eqD? a b).map (!·)) := by
  intro pins s σ H x y v u Q I rx ry h
  obtain ⟨m, S, a, b, d, rs, ra, rb, e, q⟩ := h
  obtain ⟨d', e1, rfl⟩ := Option.map_eq_some_iff.mp e
  clear e
  unfold eqD? at e1
  split at e1
  case isFalse =>
    rcases eqS_str e1 with ⟨x', y', e2, e3, rfl⟩ | ⟨xs, ys, e2, e3, hn, rfl⟩
    case inr =>
      obtain ⟨p, t, is, js, rfl, rfl, l1, l2, hz⟩ := lists_far I rs ra rb rx ry e2 e3 hn
      exact PySem.SeqAt.RcNeAt.lists_lengths l1 l2 hz (by omega) _ _ _ _ ⟨.bl _, H, I, rfl, q⟩
    cases see_c e2
    cases see_c e3
    cases ra
    cases rb
    exact op_ne pins s σ H _ _ v u Q I rx ry ⟨rfl, by simpa [cV] using q⟩
  cases e1
  rename_i hk
  rw [Bool.and_eq_true] at hk
  obtain ⟨p1, s1⟩ := eqOk_pln hk.1
  obtain ⟨p2, s2⟩ := eqOk_pln hk.2
  exact op_neD hu pins s σ H _ _ v u Q I rx ry ⟨_, _, see_dp rs ra p1, see_dp rs rb p2, s1, s2, by rw [eqD_py _ _ p1 p2]; exact q⟩
theorem op_qD {o : CmpOp} {p : Int → Int → Bool} (h : OpR X (compareOp o) (rI0 fun i j => .bl (p i j))) : OpR X (compareOp o) (R2b X.K fa (qD p)) := by
  intro pins s σ H x y v u Q I rx ry hh
  obtain ⟨m, S, a, b, d, rs, ra, rb, e, q⟩ := hh
  unfold qD at e
  split at e <;> cases e
  rename_i h1 h2
  cases see_c h1; cases see_c h2
  cases rp_int ra; cases rp_int rb
  exact h pins s σ H _ _ v u Q I rx ry ⟨_, _, rfl, rfl, q⟩
theorem flat_c (k : Cst) : flatV (cV k) = true := by cases k <;> rfl
theorem eqV_c (k j : Cst) : eqV (cV k) (cV j) = eqD (.c k) (.c j) := by
  cases k with
  | non => cases j <;> rfl
  | bl a => cases j with
    | int i => simp [cV, eqV, eqD, Bool.beq_eq_decide_eq]
    | _ => rfl
  | int i => cases j with
    | int j => simp [cV, eqV, eqD, Bool.beq_eq_decide_eq]
    | bl b => simp [cV, eqV, eqD, Bool.beq_eq_decide_eq]
    | _ => rfl
  | str x => cases j with
    | str y => simp [cV, eqV, eqD, Bool.beq_eq_decide_eq]
    | _ => rfl
theorem isC_ex {d : D} (h : isC d = true) : ∃ k, d = .c k := by cases d <;> first | exact ⟨_, rfl⟩ | simp [isC] at h
theorem flat_all : ∀ {ds : List D} {vs : List V}, RpL X.K fa m H ds vs → ds.all isC = true → vs.all flatV = true
  | _, _, .nil, _ => rfl
  | d :: ds, _, .cons r t, h => by
    rw [List.all_cons, Bool.and_eq_true] at h
    obtain ⟨k, rfl⟩ := isC_ex h.1
    cases r
    rw [List.all_cons, Bool.and_eq_true]
    exact ⟨flat_c k, flat_all t h.2⟩
theorem inV_c (k : Cst) : ∀ {ds : List D} {vs : List V}, RpL X.K fa m H ds vs → ds.all isC = true → inV (cV k) vs = ds.any fun y => eqD y (.c k)
  | _, _, .nil, _ => rfl
  | d :: ds, _, .cons r t, h => by
    rw [List.all_cons, Bool.and_eq_true] at h
    obtain ⟨j, rfl⟩ := isC_ex h.1
    cases r
    have ih := inV_c k t h.2
    unfold inV at ih ⊢
    rw [List.any_cons, List.any_cons, eqV_c, ih]
theorem any_py (d : D) (p : plnD d = true) : ∀ ds : List D, plnDs ds = true → ((toPys ds).any fun z => PyData.eqv z (toPy d)) = ds.any fun y => eqD y d
  | [], _ => rfl
  | x :: xs, h => by
    rw [plnDs, Bool.and_eq_true] at h
    rw [toPys, List.any_cons, List.any_cons, eqD_py x d h.1 p, any_py d p xs h.2]
theorem inStr_some {x y : Str} {b : Bool} (h : inStr x y = some b) : ∃ k, x = ⟨#[k]⟩ ∧ b = decide (k ∈ y.cps.toList) := by
  unfold inStr at h
  split at h
  · rename_i k hk
    refine ⟨k, ?_, (Option.some.inj h).symm⟩
    cases x with
    | mk cps => exact congrArg Str.mk (Array.ext' hk)
  · cases h
/-- x in y, by a rule for each kind of y -/
theorem in_any {f : Value → Value → Sem Value} {neg : Bool → Bool} (hr : OpR X f (fun x y H Q => ∃ p xs, y = .ref p ∧ (SqL X.K H p xs ∨ SqT X.K H p xs) ∧ flatV x = true ∧ xs.all flatV = true ∧ Q (.bl (neg (inV x xs))) H))
    (hd : OpR X f (fun x y H Q => ∃ d ds, Dp X.K H x d ∧ Dp X.K H y (.list ds) ∧ SeqAt.shaped d = true ∧ SeqAt.shaped (.list ds) = true ∧ Q (.bl (neg (ds.any fun z => PyData.eqv z d))) H))
    (ht : OpR X f (fun x y H Q => ∃ (c : Nat) (z : Str), x = .str ⟨#[c]⟩ ∧ y = .str z ∧ Q (.bl (neg (decide (c ∈ z.cps.toList)))) H)) : OpR X f (R2b X.K fa fun a b => (inD a b).map neg) := by
  intro pins s σ H x y v u Q I rx ry hh
  obtain ⟨m, S, a, b, d, rs, ra, rb, e, q⟩ := hh
  obtain ⟨d', e1, rfl⟩ := Option.map_eq_some_iff.mp e
  clear e
  unfold inD at e1
  split at e1
  · rename_i hy
    split at e1 <;> cases e1
    rename_i hk
    rw [Bool.and_eq_true] at hk
    obtain ⟨k, hk1⟩ := isC_ex hk.1
    rw [hk1] at q
    cases see_c hk1
    cases see_tup hy
    cases ra
    cases rb with
    | tup t z l => exact hr pins s σ H _ _ v u Q I rx ry ⟨_, _, rfl, .inr t, flat_c k, flat_all l hk.2, by rw [inV_c k l hk.2]; exact q⟩
  · rename_i ys hy
    split at e1 <;> cases e1
    rename_i hk
    rw [Bool.and_eq_true] at hk
    obtain ⟨p1, s1⟩ := eqOk_pln hk.1
    obtain ⟨p2, s2⟩ := eqOk_pln hk.2
    have db : Dp X.K H y (toPy (see S b)) := see_dp rs rb (by rw [hy]; exact p2)
    rw [hy] at db
    refine hd pins s σ H _ _ v u Q I rx ry ⟨_, _, see_dp rs ra p1, db, s1, s2, ?_⟩
    rw [any_py _ p1 _ (by simpa [plnD] using p2)]
    exact q
  · rename_i h1 h2
    cases see_c h1; cases see_c h2
    cases rp_str ra; cases rp_str rb
    obtain ⟨k, rfl, rfl⟩ := inStr_some e1
    exact ht pins s σ H _ _ v u Q I rx ry ⟨_, _, rfl, rfl, q⟩
  · cases e1
theorem op_inDD (hu : X.A.units + 65 < cLine) : OpR X (compareOp .In) (R2b X.K fa inD) := by
  intro pins s σ H x y v u Q I rx ry hh
  refine in_any (X := X) (fa := fa) (neg := fun b => b) ?_ ?_ ?_ pins s σ H x y v u Q I rx ry (by obtain ⟨m, S, a, b, d, rs, ra, rb, e, q⟩ := hh; exact ⟨m, S, a, b, d, rs, ra, rb, by show (inD (see S a) (see S b)).map (fun b => b) = some d; rw [e]; rfl, q⟩)
  · intro pins s σ H x y v u Q I rx ry h
    exact op_in_seq pins s σ H x y v u Q I rx ry h
  · exact op_inD hu
  · exact op_in_sign
theorem op_notInDD (hu : X.A.units + 65 < cLine) : OpR X (compareOp .NotIn) (R2b X.K fa fun a b => (inD a b).map (!·)) := by
  refine in_any (X := X) (fa := fa) (neg := fun b => !b) ?_ ?_ ?_
  · intro pins s σ H x y v u Q I rx ry h
    exact op_notIn_seq pins s σ H x y v u Q I rx ry h
  · exact op_notInD hu
  · exact op_notIn_sign
theorem isNon_v {d : D} {v : V} (h : Rp X.K fa m H d v) : decide (v = .non) = isNon d := by
  cases h with
  | c k => cases k <;> rfl
  | _ => rfl
theorem op_isDD : OpR X (compareOp .Is) (R2b X.K fa isD) := by
  intro pins s σ H x y v u Q I rx ry hh
  obtain ⟨m, S, a, b, d, rs, ra, rb, e, q⟩ := hh
  unfold isD at e
  split at e
  · rename_i h1
    cases e
    cases see_c h1
    cases rp_non rb
    exact op_isN1 pins s σ H _ _ v u Q I rx ry ⟨rfl, by rw [isNon_v ra, ← see_non (S := S)]; exact q⟩
  · rename_i h1 h2
    cases e
    cases see_c h1; cases see_c h2
    cases rp_bl ra; cases rp_bl rb
    exact op_isBl pins s σ H _ _ v u Q I rx ry ⟨_, _, rfl, rfl, q⟩
  · cases e
theorem op_isnotDD : OpR X (compareOp .IsNot) (R2b X.K fa fun a b => (isD a b).map (!·)) := by
  intro pins s σ H x y v u Q I rx ry hh
  obtain ⟨m, S, a, b, d, rs, ra, rb, e, q⟩ := hh
  obtain ⟨d', e1, rfl⟩ := Option.map_eq_some_iff.mp e
  clear e
  unfold isD at e1
  split at e1
  · rename_i h1
    cases e1
    cases see_c h1
    cases rp_non rb
    exact op_notN1 pins s σ H _ _ v u Q I rx ry ⟨rfl, by rw [isNon_v ra, ← see_non (S := S)]; exact q⟩
  · rename_i h1 h2
    cases e1
    cases see_c h1; cases see_c h2
    cases rp_bl ra; cases rp_bl rb
    exact op_notBl pins s σ H _ _ v u Q I rx ry ⟨_, _, rfl, rfl, q⟩
  · cases e1

/-! ### built-ins -/
section
variable (K : PySem.W.Frag) (fa : Nat → Option Addr)
def Rcal (f : List D → Option D) : List V → Hp → VK → Prop := fun vs H Q => ∃ m S ds d, RS K fa m S H ∧ RpL K fa m H ds vs ∧ f (ds.map (see S)) = some d ∧ ∀ v H', Gr m H m H' → RS K fa m S H' → Rp K fa m H' d v → Q v H'
end
theorem one_of {f : D → Option D} {ds : List D} {d : D} (h : one f (ds.map (see S)) = some d) : ∃ a, ds = [a] ∧ f (see S a) = some d := by
  cases ds with
  | nil => cases h
  | cons a r =>
    cases r with
    | nil => exact ⟨a, rfl, h⟩
    | cons _ _ => cases h
theorem two_of {f : D → D → Option D} {ds : List D} {d : D} (h : two f (ds.map (see S)) = some d) : ∃ a b, ds = [a, b] ∧ f (see S a) (see S b) = some d := by
  cases ds with
  | nil => cases h
  | cons a r =>
    cases r with
    | nil => cases h
    | cons b r =>
      cases r with
      | nil => exact ⟨a, b, rfl, h⟩
      | cons _ _ => cases h
theorem rpl1 {a : D} {vs : List V} (h : RpL X.K fa m H [a] vs) : ∃ v, vs = [v] ∧ Rp X.K fa m H a v := by
  cases h with
  | cons h t => cases t; exact ⟨_, rfl, h⟩
theorem rpl2 {a b : D} {vs : List V} (h : RpL X.K fa m H [a, b] vs) : ∃ v w, vs = [v, w] ∧ Rp X.K fa m H a v ∧ Rp X.K fa m H b w := by
  cases h with
  | cons h t =>
    obtain ⟨w, rfl, h2⟩ := rpl1 t
    exact ⟨_, _, rfl, h, h2⟩
theorem bools_v : ∀ {ds : List D} {bs : List Bool} {vs : List V}, boolsD ds = some bs → RpL X.K fa m H ds vs → vs = bs.map V.bl
  | [], _, _, h, .nil => by cases h; rfl
  | .c (.bl b) :: r, bs, _, h, .cons (.c _) t => by
    unfold boolsD at h
    obtain ⟨bs', h1, rfl⟩ := Option.map_eq_some_iff.mp h
    rw [bools_v h1 t]
    rfl
  | .c .non :: _, _, _, h, _ => by simp [boolsD] at h
  | .c (.int _) :: _, _, _, h, _ => by simp [boolsD] at h
  | .c (.str _) :: _, _, _, h, _ => by simp [boolsD] at h
  | .tup _ :: _, _, _, h, _ => by simp [boolsD] at h
  | .lst _ :: _, _, _, h, _ => by simp [boolsD] at h
  | .ref _ :: _, _, _, h, _ => by simp [boolsD] at h
  | .fn _ :: _, _, _, h, _ => by simp [boolsD] at h
  | .ty _ :: _, _, _, h, _ => by simp [boolsD] at h
  | .fz _ :: _, _, _, h, _ => by simp [boolsD] at h
  | .ptup _ :: _, _, _, h, _ => by simp [boolsD] at h
  | .edc :: _, _, _, h, _ => by simp [boolsD] at h
theorem ints_v : ∀ {ds : List D} {is : List Int} {vs : List V}, intsD ds = some is → RpL X.K fa m H ds vs → vs = is.map V.int
  | [], _, _, h, .nil => by cases h; rfl
  | .c (.int b) :: r, bs, _, h, .cons (.c _) t => by
    unfold intsD at h
    obtain ⟨bs', h1, rfl⟩ := Option.map_eq_some_iff.mp h
    rw [ints_v h1 t]
    rfl
  | .c .non :: _, _, _, h, _ => by simp [intsD] at h
  | .c (.bl _) :: _, _, _, h, _ => by simp [intsD] at h
  | .c (.str _) :: _, _, _, h, _ => by simp [intsD] at h
  | .tup _ :: _, _, _, h, _ => by simp [intsD] at h
  | .lst _ :: _, _, _, h, _ => by simp [intsD] at h
  | .ref _ :: _, _, _, h, _ => by simp [intsD] at h
  | .fn _ :: _, _, _, h, _ => by simp [intsD] at h
  | .ty _ :: _, _, _, h, _ => by simp [intsD] at h
  | .fz _ :: _, _, _, h, _ => by simp [intsD] at h
  | .ptup _ :: _, _, _, h, _ => by simp [intsD] at h
  | .edc :: _, _, _, h, _ => by simp [intsD] at h
theorem rp_ints (is : List Int) : RpL X.K fa m H (is.map .int) (is.map V.int) := by
  induction is with
  | nil => exact .nil
  | cons i r ih => exact .cons (.c _) ih
theorem call_lenD : CallR X (.builtin "len") (Rcal X.K fa (one lenD)) := by
  intro pins s σ H xs us Q I r h
  obtain ⟨m, S, ds, d, rs, rl, e, q⟩ := h
  obtain ⟨a, rfl, e1⟩ := one_of e
  clear e
  have e := e1
  clear e1
  obtain ⟨v, rfl, ra⟩ := rpl1 rl
  unfold lenD at e
  split at e
  · rename_i xs hs
    cases e
    cases see_tup hs
    cases ra with
    | tup t z l => exact call_len_seq pins s σ H _ us Q I r ⟨_, _, rfl, .inr t, by rw [← l.length]; exact same (r := rs) q (.c _)⟩
  · rename_i xs hs
    cases e
    obtain ⟨a', vs, rfl, h1, z, l⟩ := see_lst rs ra hs
    exact call_len_seq pins s σ H _ us Q I r ⟨_, _, rfl, .inl (.of h1), by rw [← l.length]; exact same (r := rs) q (.c _)⟩
  · rename_i xs hs
    cases e
    cases see_fz hs
    cases ra with
    | fz t z l => exact call_len_seq pins s σ H _ us Q I r ⟨_, _, rfl, .inl t.sq, by rw [← l.length]; exact same (r := rs) q (.c _)⟩
  · rename_i x hs
    split at e <;> cases e
    rename_i hz
    cases see_c hs
    cases ra
    exact call_len_str pins s σ H _ us Q I r ⟨_, rfl, hz, same (r := rs) q (.c _)⟩
  · cases e
theorem call_allD (hc : X.calm = true) : CallR X (.builtin "all") (Rcal X.K fa (one allD)) := by
  intro pins s σ H xs us Q I r h
  obtain ⟨m, S, ds, d, rs, rl, e, q⟩ := h
  obtain ⟨a, rfl, e1⟩ := one_of e
  clear e
  have e := e1
  clear e1
  obtain ⟨v, rfl, ra⟩ := rpl1 rl
  unfold allD at e
  split at e
  · rename_i xs hs
    obtain ⟨bs, hb, rfl⟩ := Option.map_eq_some_iff.mp e
    obtain ⟨a', vs, rfl, h1, z, l⟩ := see_lst rs ra hs
    cases bools_v hb l
    exact cr_all hc pins s σ H _ us Q I r ⟨_, bs, rfl, .of h1, same (r := rs) q (.c _)⟩
  · cases e
theorem call_anyD (hc : X.calm = true) : CallR X (.builtin "any") (Rcal X.K fa (one anyD)) := by
  intro pins s σ H xs us Q I r h
  obtain ⟨m, S, ds, d, rs, rl, e, q⟩ := h
  obtain ⟨a, rfl, e1⟩ := one_of e
  clear e
  have e := e1
  clear e1
  obtain ⟨v, rfl, ra⟩ := rpl1 rl
  unfold anyD at e
  split at e
  · rename_i xs hs
    obtain ⟨bs, hb, rfl⟩ := Option.map_eq_some_iff.mp e
    obtain ⟨a', vs, rfl, h1, z, l⟩ := see_lst rs ra hs
    cases bools_v hb l
    exact cr_any hc pins s σ H _ us Q I r ⟨_, bs, rfl, .of h1, same (r := rs) q (.c _)⟩
  · cases e
theorem call_sumD (hc : X.calm = true) : CallR X (.builtin "sum") (Rcal X.K fa (one sumD)) := by
  intro pins s σ H xs us Q I r h
  obtain ⟨m, S, ds, d, rs, rl, e, q⟩ := h
  obtain ⟨a, rfl, e1⟩ := one_of e
  clear e
  have e := e1
  clear e1
  obtain ⟨v, rfl, ra⟩ := rpl1 rl
  unfold sumD at e
  split at e
  · rename_i xs hs
    obtain ⟨bs, hb, rfl⟩ := Option.map_eq_some_iff.mp e
    obtain ⟨a', vs, rfl, h1, z, l⟩ := see_lst rs ra hs
    cases ints_v hb l
    exact cr_sum hc pins s σ H _ us Q I r ⟨_, bs, rfl, .of h1, same (r := rs) q (.c _)⟩
  · cases e
theorem call_absD : CallR X (.builtin "abs") (Rcal X.K fa (one absD)) := by
  intro pins s σ H xs us Q I r h
  obtain ⟨m, S, ds, d, rs, rl, e, q⟩ := h
  obtain ⟨a, rfl, e1⟩ := one_of e
  clear e
  have e := e1
  clear e1
  obtain ⟨v, rfl, ra⟩ := rpl1 rl
  unfold absD at e
  split at e
  · rename_i xs hs
    cases e
    cases see_c hs
    cases ra
    exact call_abs pins s σ H _ us Q I r ⟨_, rfl, same (r := rs) q (.c _)⟩
  · cases e
theorem call_intD : CallR X (.type "int") (Rcal X.K fa (one intD)) := by
  intro pins s σ H xs us Q I r h
  obtain ⟨m, S, ds, d, rs, rl, e, q⟩ := h
  obtain ⟨a, rfl, e1⟩ := one_of e
  clear e
  have e := e1
  clear e1
  obtain ⟨v, rfl, ra⟩ := rpl1 rl
  unfold intD at e
  split at e
  · rename_i xs hs
    cases e
    cases see_c hs
    cases ra
    exact call_int1 pins s σ H _ us Q I r (.inl ⟨_, rfl, same (r := rs) q (.c _)⟩)
  · rename_i xs hs
    cases e
    cases see_c hs
    cases ra
    exact call_int1 pins s σ H _ us Q I r (.inr ⟨_, rfl, same (r := rs) q (.c _)⟩)
  · rename_i xs hs
    split at e
    · rename_i hz
      obtain ⟨n, hn, rfl⟩ := Option.map_eq_some_iff.mp e
      cases see_c hs
      cases ra
      exact call_int_str pins s σ H _ us Q I r ⟨_, n, rfl, hn, hz, same (r := rs) q (.c (.int n))⟩
    · cases e
  · cases e
theorem call_tupD : CallR X (.type "tuple") (Rcal X.K fa (one tupD)) := by
  intro pins s σ H xs us Q I r h
  obtain ⟨m, S, ds, d, rs, rl, e, q⟩ := h
  obtain ⟨a, rfl, e1⟩ := one_of e
  clear e
  have e := e1
  clear e1
  obtain ⟨v, rfl, ra⟩ := rpl1 rl
  unfold tupD at e
  split at e
  · rename_i xs hs
    cases e
    obtain ⟨a', vs, rfl, h1, z, l⟩ := see_lst rs ra hs
    exact call_tuple_of pins s σ H _ us Q I r ⟨_, _, rfl, .inl ⟨.of h1, fun p hp => fresh_tup (r := rs) q hp z l⟩⟩
  · rename_i xs hs
    cases e
    cases see_tup hs
    cases ra with
    | tup t z l => exact call_tuple_of pins s σ H _ us Q I r ⟨_, _, rfl, .inr ⟨t, same (r := rs) q (.tup t z l)⟩⟩
  · cases e
theorem call_lstD : CallR X (.type "list") (Rcal X.K fa (one lstD)) := by
  intro pins s σ H xs us Q I r h
  obtain ⟨m, S, ds, d, rs, rl, e, q⟩ := h
  obtain ⟨a, rfl, e1⟩ := one_of e
  clear e
  have e := e1
  clear e1
  obtain ⟨v, rfl, ra⟩ := rpl1 rl
  unfold lstD at e
  split at e
  · rename_i xs hs
    cases e
    obtain ⟨a', vs, rfl, h1, z, l⟩ := see_lst rs ra hs
    exact call_list_of pins s σ H _ us Q I r ⟨_, _, rfl, .inl (.of h1), fun p hp => fresh_lst (r := rs) q hp z l⟩
  · rename_i xs hs
    cases e
    cases see_tup hs
    cases ra with
    | tup t z l => exact call_list_of pins s σ H _ us Q I r ⟨_, _, rfl, .inr t, fun p hp => fresh_lst (r := rs) q hp z l⟩
  · cases e
theorem call_strD : CallR X (.type "str") (Rcal X.K fa (one strD)) := by
  intro pins s σ H xs us Q I r h
  obtain ⟨m, S, ds, d, rs, rl, e, q⟩ := h
  obtain ⟨a, rfl, e1⟩ := one_of e
  obtain ⟨v, rfl, ra⟩ := rpl1 rl
  unfold strD at e1
  split at e1
  · rename_i i hs
    split at e1 <;> cases e1
    rename_i hi
    cases see_c hs
    cases ra
    exact call_str_int pins s σ H _ us Q I r ⟨i, rfl, hi, same (r := rs) q (.c _)⟩
  · rename_i x hs
    cases e1
    cases see_c hs
    cases ra
    exact SkE.call_str_str pins s σ H _ us Q I r ⟨x, rfl, same (r := rs) q (.c _)⟩
  · cases e1
theorem insD_perm (i : Int) : ∀ l : List Int, (insD i l).Perm (i :: l)
  | [] => .refl _
  | j :: r => by
    unfold insD
    split
    · exact .refl _
    · exact ((insD_perm i r).cons j).trans (.swap i j r)
theorem insD_mem {i x : Int} {l : List Int} (h : x ∈ insD i l) : x = i ∨ x ∈ l := by
  have := (insD_perm i l).mem_iff.mp h
  simpa using this
theorem insD_sorted (i : Int) : ∀ l : List Int, l.Pairwise (· ≤ ·) → (insD i l).Pairwise (· ≤ ·)
  | [], _ => by simp [insD]
  | j :: r, h => by
    rw [List.pairwise_cons] at h
    unfold insD
    split
    · rename_i hij
      refine List.pairwise_cons.mpr ⟨fun x hx => ?_, List.pairwise_cons.mpr h⟩
      rcases List.mem_cons.mp hx with rfl | hx
      · exact hij
      · exact Int.le_trans hij (h.1 x hx)
    · refine List.pairwise_cons.mpr ⟨fun x hx => ?_, insD_sorted i r h.2⟩
      rcases insD_mem hx with rfl | hx
      · omega
      · exact h.1 x hx
theorem sortI_perm : ∀ l : List Int, (sortI l).Perm l
  | [] => .refl _
  | i :: r => (insD_perm i (sortI r)).trans ((sortI_perm r).cons i)
theorem sortI_sorted : ∀ l : List Int, (sortI l).Pairwise (· ≤ ·)
  | [] => .nil
  | i :: r => insD_sorted i _ (sortI_sorted r)
theorem once_mem {k : Int} : ∀ {l : List Int}, k ∈ onceI l ↔ k ∈ l
  | [] => .rfl
  | i :: r => by
    unfold onceI
    split
    · rename_i h
      rw [once_mem, List.mem_cons]
      exact ⟨.inr, fun z => z.elim (fun z => z ▸ h) id⟩
    · rw [List.mem_cons, List.mem_cons, once_mem]
theorem once_nd : ∀ l : List Int, (onceI l).Nodup
  | [] => List.nodup_nil
  | i :: r => by
    unfold onceI
    split
    · exact once_nd r
    · rename_i h
      exact List.nodup_cons.mpr ⟨fun z => h (once_mem.mp z), once_nd r⟩
theorem once_len : ∀ l : List Int, (onceI l).length ≤ l.length
  | [] => Nat.le_refl _
  | i :: r => by
    have := once_len r
    unfold onceI
    split <;> simp only [List.length_cons] <;> omega
theorem once_asc (l : List Int) : (sortI (onceI l)).Pairwise (· < ·) :=
  List.Pairwise.imp₂ (R := (· ≤ ·)) (S := (· ≠ ·)) (fun a b h1 h2 => by omega) (sortI_sorted _) ((sortI_perm _).nodup_iff.mpr (once_nd l))
theorem asc_uniq : ∀ {a b : List Int}, a.Pairwise (· < ·) → b.Pairwise (· < ·) → (∀ k, k ∈ a ↔ k ∈ b) → a = b := fun {a b} ha hb h => by
  have nd : ∀ {l : List Int}, l.Pairwise (· < ·) → l.Nodup := fun h => h.imp fun z => Int.ne_of_lt z
  have p : a.Perm b := (List.perm_ext_iff_of_nodup (nd ha) (nd hb)).mpr h
  exact p.eq_of_pairwise (fun x y _ _ h1 h2 => by omega) ha hb
theorem sorted_one : ∀ {a b : List Int}, a.Perm b → a.Pairwise (· ≤ ·) → b.Pairwise (· ≤ ·) → a = b := by
  intro a b p ha hb
  exact p.eq_of_pairwise (fun x y _ _ h1 h2 => Int.le_antisymm h1 h2) ha hb
theorem call_srtD : CallR X (.builtin "sorted") (Rcal X.K fa (one srtD)) := by
  intro pins s σ H xs us Q I r h
  obtain ⟨m, S, ds, d, rs, rl, e, q⟩ := h
  obtain ⟨a, rfl, e1⟩ := one_of e
  clear e
  have e := e1
  clear e1
  obtain ⟨v, rfl, ra⟩ := rpl1 rl
  unfold srtD at e
  split at e
  · rename_i xs hs
    obtain ⟨is, hb, rfl⟩ := Option.map_eq_some_iff.mp e
    obtain ⟨a', vs, rfl, h1, z, l⟩ := see_lst rs ra hs
    cases ints_v hb l
    refine cr_sortedI pins s σ H _ us Q I r ⟨_, is, rfl, .of h1, fun ns' p hp hs hn => ?_⟩
    cases sorted_one (hp.trans (sortI_perm is).symm) hs (sortI_sorted is)
    refine fresh_lst (r := rs) q hn ?_ (rp_ints _)
    rw [List.length_map, (sortI_perm is).length_eq]
    rwa [List.length_map] at z
  · rename_i xs hs
    obtain ⟨is, hb, rfl⟩ := Option.map_eq_some_iff.mp e
    cases see_tup hs
    cases ra with
    | tup t z l =>
      cases ints_v hb l
      refine cr_sortedTup pins s σ H _ us Q I r ⟨_, is, rfl, t, fun ns' p hp hs hn => ?_⟩
      cases sorted_one (hp.trans (sortI_perm is).symm) hs (sortI_sorted is)
      refine fresh_lst (r := rs) q hn ?_ (rp_ints _)
      rw [List.length_map, (sortI_perm is).length_eq]
      rwa [List.length_map] at z
  · cases e
theorem call_minD (hc : X.calm = true) : CallR X (.builtin "min") (Rcal X.K fa (two minD)) := by
  intro pins s σ H xs us Q I r h
  obtain ⟨m, S, ds, d, rs, rl, e, q⟩ := h
  obtain ⟨a, b, rfl, e1⟩ := two_of e
  clear e
  have e := e1
  clear e1
  obtain ⟨v, w, rfl, ra, rb⟩ := rpl2 rl
  unfold minD at e
  split at e
  · rename_i h1 h2
    cases e
    cases see_c h1; cases see_c h2
    cases ra; cases rb
    exact call_min2 hc pins s σ H _ us Q I r ⟨_, _, rfl, same (r := rs) q (.c _)⟩
  · cases e
theorem call_maxD (hc : X.calm = true) : CallR X (.builtin "max") (Rcal X.K fa (two maxD)) := by
  intro pins s σ H xs us Q I r h
  obtain ⟨m, S, ds, d, rs, rl, e, q⟩ := h
  obtain ⟨a, b, rfl, e1⟩ := two_of e
  clear e
  have e := e1
  clear e1
  obtain ⟨v, w, rfl, ra, rb⟩ := rpl2 rl
  unfold maxD at e
  split at e
  · rename_i h1 h2
    cases e
    cases see_c h1; cases see_c h2
    cases ra; cases rb
    exact call_max2 hc pins s σ H _ us Q I r ⟨_, _, rfl, same (r := rs) q (.c _)⟩
  · cases e
end
end Rf

set_option Elab.async false
set_option maxRecDepth 100000
set_option maxHeartbeats 1000000
/-! Rf, part D: places, slices, stores, methods, isinstance, repr by values. -/
namespace Rf
open PySem PySem.Spec PyProof.Rows L2
section
variable {X : Cx} {fa : Nat → Option Addr} {m : List Addr} {S : Store} {H : Hp}
theorem ixD_eq (n : Nat) (i : Int) : ixD n i = ixN n i := rfl
theorem atD_v {ds : List D} {vs : List V} {i : Int} {d : D} (l : RpL X.K fa m H ds vs) (h : atD ds i = some d) : ∃ v, atI vs i = some v ∧ Rp X.K fa m H d v := by
  unfold atD at h
  obtain ⟨j, h1, h2⟩ := Option.bind_eq_some_iff.mp h
  obtain ⟨v, h3, h4⟩ := l.get h2
  refine ⟨v, ?_, h4⟩
  unfold atI
  rw [← ixD_eq, ← l.length, h1]
  exact h3
theorem clD_eq (n d : Nat) (o : Option Int) : clD n d o = HT.sIx n d o := by
  cases o <;> rfl
theorem cut_v {ds : List D} {vs : List V} (lo hi : Option Int) (l : RpL X.K fa m H ds vs) : RpL X.K fa m H (cutD ds lo hi) (cutV vs lo hi) := by
  unfold cutD cutV
  rw [clD_eq, clD_eq, l.length]
  exact (l.drop _).take _
theorem cutV_le (vs : List V) (lo hi : Option Int) : (cutV vs lo hi).length ≤ vs.length := by
  unfold cutV
  rw [List.length_take, List.length_drop]
  omega
theorem kyK_v (k : Ky) {d : D} {v : V} (h : keyOf d = some k) (r : Rp X.K fa m H d v) : v = kV (kyK k) := by
  unfold keyOf at h
  split at h <;> cases h
  · cases r; rfl
  · cases r; rfl
theorem kyK_inj {a b : Ky} : kyK a = kyK b ↔ a = b := by
  cases a <;> cases b <;> simp [kyK]
theorem getK_v {kvs : List (Ky × D)} {ws : List (Key × V)} (k : Ky) (hk : ws.map (·.1) = kvs.map fun q => kyK q.1) (l : RpL X.K fa m H (kvs.map (·.2)) (ws.map (·.2))) :
    (getK kvs k = none ∧ valV ws (kyK k) = none) ∨ ∃ d v, getK kvs k = some d ∧ valV ws (kyK k) = some v ∧ Rp X.K fa m H d v := by
  induction kvs generalizing ws with
  | nil =>
    cases ws with
    | nil => exact .inl ⟨rfl, rfl⟩
    | cons _ _ => cases hk
  | cons p r ih =>
    cases ws with
    | nil => cases hk
    | cons w ws =>
      rw [List.map_cons, List.map_cons] at hk l
      injection hk with h1 h2
      cases l with
      | cons l1 l2 =>
        by_cases e : p.1 = k
        · refine .inr ⟨p.2, w.2, ?_, ?_, l1⟩
          · unfold getK
            rw [List.find?_cons, decide_eq_true e]
            rfl
          · exact valV_pos (by rw [h1, e])
        · have e' : ¬ w.1 = kyK k := by rw [h1, kyK_inj]; exact e
          rw [valV_neg e']
          have : getK (p :: r) k = getK r k := by
            unfold getK
            rw [List.find?_cons, decide_eq_false e]
          rw [this]
          exact ih h2 l2
theorem putK_v {kvs : List (Ky × D)} {ws : List (Key × V)} (k : Ky) {d : D} {v : V} (hk : ws.map (·.1) = kvs.map fun q => kyK q.1) (l : RpL X.K fa m H (kvs.map (·.2)) (ws.map (·.2))) (r : Rp X.K fa m H d v) :
    (putK ws (kyK k) v).map (·.1) = (putKy kvs k d).map (fun q => kyK q.1) ∧ RpL X.K fa m H ((putKy kvs k d).map (·.2)) ((putK ws (kyK k) v).map (·.2)) := by
  have any_eq : (ws.any fun q => decide (q.1 = kyK k)) = kvs.any fun q => decide (q.1 = k) := by
    clear l r
    induction kvs generalizing ws with
    | nil =>
      cases ws with
      | nil => rfl
      | cons _ _ => cases hk
    | cons p r ih =>
      cases ws with
      | nil => cases hk
      | cons w ws =>
        rw [List.map_cons, List.map_cons] at hk
        injection hk with h1 h2
        rw [List.any_cons, List.any_cons, ih h2, h1]
        congr 1
        rw [decide_eq_decide]
        exact kyK_inj
  unfold putK putKy
  rw [any_eq]
  by_cases ha : (kvs.any fun q => decide (q.1 = k)) = true
  · rw [if_pos ha, if_pos ha]
    clear any_eq ha
    induction kvs generalizing ws with
    | nil =>
      cases ws with
      | nil => exact ⟨rfl, .nil⟩
      | cons _ _ => cases hk
    | cons p r' ih =>
      cases ws with
      | nil => cases hk
      | cons w ws =>
        rw [List.map_cons, List.map_cons] at hk l
        injection hk with h1 h2
        cases l with
        | cons l1 l2 =>
          obtain ⟨i1, i2⟩ := ih h2 l2
          simp only [List.map_cons]
          by_cases e : p.1 = k
          · have e' : w.1 = kyK k := by rw [h1, e]
            rw [if_pos e, if_pos e']
            exact ⟨by rw [i1, e'], .cons r i2⟩
          · have e' : ¬ w.1 = kyK k := by rw [h1, kyK_inj]; exact e
            rw [if_neg e, if_neg e']
            exact ⟨by rw [i1, h1], .cons l1 i2⟩
  · rw [if_neg ha, if_neg ha]
    simp only [List.map_append, List.map_cons, List.map_nil]
    exact ⟨by rw [hk], l.append (.cons r .nil)⟩

/-! ### o[i] -/
section
variable (K : PySem.W.Frag) (fa : Nat → Option Addr)
def Rix : R2 := fun x y H Q => ∃ m S a b d, RS K fa m S H ∧ Rp K fa m H a x ∧ Rp K fa m H b y ∧ idxD a b S = some d ∧ ∀ v, Rp K fa m H d v → Q v H
end
/-- o[i] of a dict as a subscript -/
theorem ix_dct (hu : X.A.units + 1 < cLine) : IxR X (fun x y H Q => ∃ a v, x = .ref a ∧ DGet H a y (some v) ∧ Q v H) := by
  intro value slice pins s σ H x y v u Q I rx ry h hs
  obtain ⟨a, w, rfl, g, q⟩ := h
  cases rx
  exact PyProof.Rows.tail_any (dict_typeIs I g) PySem.F.slot_dict_getitem.lookup (d_getItem hu I g ry fun w' s3 I3 rw' => ⟨w, H, I3, rw', q⟩) hs
theorem idx_ok (hu : X.A.units + 1 < cLine) : IxR X (Rix X.K fa) := by
  intro value slice pins s σ H x y v u Q I rx ry h hs
  obtain ⟨m, S, a, b, d, rs, ra, rb, e, q⟩ := h
  unfold idxD at e
  split at e
  · cases rp_int rb
    cases ra with
    | tup t z l =>
      obtain ⟨w, h1, h2⟩ := atD_v l e
      exact ix_tup value slice pins s σ H _ _ v u Q I rx ry ⟨_, _, _, _, rfl, rfl, t, h1, q _ h2⟩ hs
  · cases rp_int rb
    cases ra with
    | lst t n z l =>
      obtain ⟨w, h1, h2⟩ := atD_v l e
      exact ix_list value slice pins s σ H _ _ v u Q I rx ry ⟨_, _, _, _, rfl, rfl, .of t, h1, q _ h2⟩ hs
  · cases rp_int rb
    cases ra with
    | fz t z l =>
      obtain ⟨w, h1, h2⟩ := atD_v l e
      exact ix_list value slice pins s σ H _ _ v u Q I rx ry ⟨_, _, _, _, rfl, rfl, t.sq, h1, q _ h2⟩ hs
  · cases rp_str ra
    cases rp_int rb
    split at e
    · rename_i hz
      obtain ⟨k, h1, rfl⟩ := Option.map_eq_some_iff.mp e
      exact ix_str value slice pins s σ H _ _ v u Q I rx ry ⟨_, _, _, rfl, rfl, hz, h1, q _ (.c _)⟩ hs
    · cases e
  · split at e
    · rename_i hn
      cases rp_int rb
      obtain ⟨a', o, h1, h2, vs, rfl, z, l⟩ := rs.at_ _ _ hn
      cases ra with
      | ref h =>
        rw [h] at h1
        cases h1
        obtain ⟨w, h3, h4⟩ := atD_v l e
        exact ix_list value slice pins s σ H _ _ v u Q I rx ry ⟨_, _, _, _, rfl, rfl, .of h2, h3, q _ h4⟩ hs
    · rename_i hn
      obtain ⟨a', o, h1, h2, ws, rfl, z, hk, l⟩ := rs.at_ _ _ hn
      obtain ⟨k, k1, k2⟩ := Option.bind_eq_some_iff.mp e
      cases ra with
      | ref h =>
        rw [h] at h1
        cases h1
        cases kyK_v k k1 rb
        rcases getK_v k hk l with ⟨h3, _⟩ | ⟨d', w, h3, h4, h5⟩
        · rw [h3] at k2; cases k2
        · rw [h3] at k2
          cases k2
          exact ix_dct hu value slice pins s σ H _ _ v u Q I rx ry ⟨_, w, rfl, by rw [← h4]; exact DGet.k h2, q _ h5⟩ hs
    · cases e
  · cases e
/-- the same by getItem, no place counted from behind -/
theorem get_ok (hu : X.A.units + 1 < cLine) : PGet X (fun x y H Q => ∃ m S a b d, RS X.K fa m S H ∧ Rp X.K fa m H a x ∧ Rp X.K fa m H b y ∧ idxD a b S = some d ∧ (∀ i : Int, b = .int i → 0 ≤ i) ∧ (∃ n, a = .ref n) ∧ ∀ v, Rp X.K fa m H d v → Q v H) := by
  intro pins s σ H x y v u Q I rx ry h
  obtain ⟨m, S, a, b, d, rs, ra, rb, e, nn, ⟨n, rfl⟩, q⟩ := h
  unfold idxD at e
  simp only at e
  split at e
  · rename_i hn
    cases rp_int rb
    obtain ⟨a', o, h1, h2, vs, rfl, z, l⟩ := rs.at_ _ _ hn
    cases ra with
    | ref h =>
      rw [h] at h1
      cases h1
      obtain ⟨w, h3, h4⟩ := atD_v l e
      cases rx
      obtain ⟨t, rfl⟩ := ry
      obtain ⟨its, r, pl, hz⟩ := I.list (.of h2)
      have h0 := nn _ rfl
      unfold atI at h3
      obtain ⟨j, j1, j2⟩ := Option.bind_eq_some_iff.mp h3
      unfold ixN at j1
      rw [if_pos h0] at j1
      split at j1 <;> cases j1
      rename_i hlt
      obtain ⟨w', g1, g2⟩ := r.get j2
      have hb := line63
      refine wpAny_getItem_list pl.isList h0 (by omega) (x := w') ?_ ⟨w, H, I, g2, q _ h4⟩
      simpa using g1
  · rename_i hn
    obtain ⟨a', o, h1, h2, ws, rfl, z, hk, l⟩ := rs.at_ _ _ hn
    obtain ⟨k, k1, k2⟩ := Option.bind_eq_some_iff.mp e
    cases ra with
    | ref h =>
      rw [h] at h1
      cases h1
      cases kyK_v k k1 rb
      rcases getK_v k hk l with ⟨h3, _⟩ | ⟨d', w, h3, h4, h5⟩
      · rw [h3] at k2; cases k2
      · rw [h3] at k2
        cases k2
        cases rx
        exact d_getItem hu I (by rw [← h4]; exact DGet.k h2) ry fun w' s3 I3 rw' => ⟨w, H, I3, rw', q _ h5⟩
  · cases e
/-! ### o[lo:hi] -/
section
variable (K : PySem.W.Frag) (fa : Nat → Option Addr)
def Rsl : V → Option Int → Option Int → Hp → VK → Prop := fun x lo hi H Q => ∃ m S a d, RS K fa m S H ∧ Rp K fa m H a x ∧ slcO a lo hi S = some d ∧ ∀ v H', Gr m H m H' → RS K fa m S H' → Rp K fa m H' d v → Q v H'
end
theorem whole_cut {ds : List D} {lo hi : Option Int} {n : Nat} (hn : n = ds.length) (h : HT.sIx n 0 lo = 0 ∧ HT.sIx n n hi = n) : cutD ds lo hi = ds := by
  subst hn
  unfold cutD
  rw [clD_eq, clD_eq, h.1, h.2, List.drop_zero, Nat.sub_zero]
  exact List.take_length
theorem slc_ok : SlR X (Rsl X.K fa) := by
  intro pins s σ H x v vl vu lo hi sl Q I rx hs pl pu h
  obtain ⟨m, S, a, d, rs, ra, e, q⟩ := h
  unfold slcO at e
  split at e
  · cases e
    cases ra with
    | tup t z l =>
      refine sl_tupA pins s σ H _ v vl vu lo hi sl Q I rx hs pl pu ⟨_, _, rfl, t, fun hw => ?_, fun hw p hp => ?_⟩
      · refine same (r := rs) q ?_
        rw [whole_cut l.length.symm hw]
        exact .tup t z l
      · exact fresh_tup (r := rs) q hp (Nat.le_trans (cutV_le _ _ _) z) (cut_v lo hi l)
  · cases e
    cases ra with
    | lst t n z l => exact sl_list pins s σ H _ v vl vu lo hi sl Q I rx hs pl pu ⟨_, _, rfl, .of t, fun p hp => fresh_lst (r := rs) q hp (Nat.le_trans (cutV_le _ _ _) z) (cut_v lo hi l)⟩
  · cases e
    cases ra with
    | fz t z l => exact sl_list pins s σ H _ v vl vu lo hi sl Q I rx hs pl pu ⟨_, _, rfl, t.sq, fun p hp => fresh_lst (r := rs) q hp (Nat.le_trans (cutV_le _ _ _) z) (cut_v lo hi l)⟩
  · split at e
    · rename_i hz
      cases e
      cases rp_str ra
      refine sl_str pins s σ H _ v vl vu lo hi sl Q I rx hs pl pu ⟨_, rfl, hz, ?_⟩
      exact same (r := rs) q (.c _)
    · cases e
  · split at e
    · rename_i hn
      cases e
      obtain ⟨a', o, h1, h2, vs, rfl, z, l⟩ := rs.at_ _ _ hn
      cases ra with
      | ref h =>
        rw [h] at h1
        cases h1
        exact sl_list pins s σ H _ v vl vu lo hi sl Q I rx hs pl pu ⟨_, _, rfl, .of h2, fun p hp => fresh_lst (r := rs) q hp (Nat.le_trans (cutV_le _ _ _) z) (cut_v lo hi l)⟩
    · cases e
  · cases e
/-! ### o[i] = v -/
theorem put_ok (hu : X.A.units + 1 < cLine) : PSet X (fun o i v H Q => ∃ m S a b c S', RS X.K fa m S H ∧ Rp X.K fa m H a o ∧ Rp X.K fa m H b i ∧ Rp X.K fa m H c v ∧ putIx a b c S = some S' ∧ ∀ H', Gr m H m H' → RS X.K fa m S' H' → Q H') := by
  intro pins s σ H o i v ov iv u Q I ro ri rv h
  obtain ⟨m, S, a, b, c, S', rs, ra, rb, rc, e, q⟩ := h
  unfold putIx at e
  split at e
  · split at e
    · rename_i hn
      cases rp_int rb
      obtain ⟨a', ob, h1, h2, vs, rfl, z, l⟩ := rs.at_ _ _ hn
      obtain ⟨j, j1, rfl⟩ := Option.map_eq_some_iff.mp e
      cases ra with
      | ref h =>
        rw [h] at h1
        cases h1
        refine set_list pins s σ H _ _ v ov iv u Q I ro ri rv ⟨_, _, _, j, rfl, rfl, h2, by rw [← ixD_eq, ← l.length]; exact j1, ?_⟩
        exact q _ (Gr.write h) (rs.write h ⟨_, rfl, by rw [List.length_set]; exact z, RpL.set j rc l⟩)
    · rename_i hn
      obtain ⟨a', ob, h1, h2, ws, rfl, z, hk, l⟩ := rs.at_ _ _ hn
      obtain ⟨k, k1, k2⟩ := Option.bind_eq_some_iff.mp e
      split at k2 <;> cases k2
      rename_i hz
      cases ra with
      | ref h =>
        rw [h] at h1
        cases h1
        cases kyK_v k k1 rb
        cases ro
        have hl : ws.length < sizeLine := by
          have e1 := congrArg List.length hk
          rw [List.length_map, List.length_map] at e1
          rw [e1]
          exact hz
        refine d_setItem hu I (DPut.k h2 hl) ri rv fun s4 I4 => ⟨_, I4, ?_⟩
        obtain ⟨p1, p2⟩ := putK_v k hk l rc
        refine q _ (Gr.write h) (rs.write h ⟨_, rfl, ?_, p1, p2⟩)
        have : (putK ws (kyK k) v).length ≤ ws.length + 1 := by
          unfold putK
          split
          · rw [List.length_map]; omega
          · rw [List.length_append]; exact Nat.le_refl _
        omega
    · cases e
  · cases e
/-! ### methods -/
section
variable (K : PySem.W.Frag) (fa : Nat → Option Addr)
def Rmt (f : D → List D → Store → Res D) : V → List V → Hp → VK → Prop := fun x vs H Q => ∃ m S a ds d S', RS K fa m S H ∧ Rp K fa m H a x ∧ RpL K fa m H ds vs ∧ f a ds S = .ok d S' ∧ ∀ v H', Gr m H m H' → RS K fa m S' H' → Rp K fa m H' d v → Q v H'
end
theorem lstAt_v {a : D} {v : V} {n : Nat} {xs : List D} (rs : RS X.K fa m S H) (r : Rp X.K fa m H a v) (e : lstAt S a = some (n, xs)) : ∃ b vs, v = .ref b ∧ m[n]? = some b ∧ H b = some (.lst vs) ∧ vs.length ≤ sizeLine ∧ RpL X.K fa m H xs vs := by
  unfold lstAt at e
  split at e
  · split at e
    · cases e
      rename_i hn
      obtain ⟨a', ob, h1, h2, vs, rfl, z, l⟩ := rs.at_ _ _ hn
      cases r with
      | ref h =>
        rw [h] at h1
        cases h1
        exact ⟨_, vs, rfl, h, h2, z, l⟩
    · cases e
  · cases e
theorem dctAt_v {a : D} {v : V} {n : Nat} {kvs : List (Ky × D)} (rs : RS X.K fa m S H) (r : Rp X.K fa m H a v) (e : dctAt S a = some (n, kvs)) : ∃ b ws, v = .ref b ∧ m[n]? = some b ∧ H b = some (.dK ws) ∧ ws.length ≤ sizeLine ∧ ws.map (·.1) = kvs.map (fun q => kyK q.1) ∧ RpL X.K fa m H (kvs.map (·.2)) (ws.map (·.2)) := by
  unfold dctAt at e
  split at e
  · split at e
    · cases e
      rename_i hn
      obtain ⟨a', ob, h1, h2, vs, rfl, z, l⟩ := rs.at_ _ _ hn
      cases r with
      | ref h =>
        rw [h] at h1
        cases h1
        exact ⟨_, vs, rfl, h, h2, z, l⟩
    · cases e
  · cases e
theorem app_mt : MtM X "list.append" (Rmt X.K fa appD) := by
  intro pins s σ H x vs v us Q I rx rv h
  obtain ⟨m, S, a, ds, d, S', rs, ra, rl, e, q⟩ := h
  unfold appD at e
  split at e
  · rename_i n xs y ha
    split at e <;> cases e
    rename_i hz
    obtain ⟨b, ws, rfl, h1, h2, z, l⟩ := lstAt_v rs ra ha
    obtain ⟨w, rfl, rw'⟩ := rpl1 rl
    rw [l.length] at hz
    refine mt_append pins s σ H _ _ v us Q I rx rv ⟨_, _, _, rfl, rfl, h2, hz, ?_⟩
    refine q _ _ (Gr.write h1) (rs.write h1 ⟨_, rfl, ?_, l.append (.cons rw' .nil)⟩) (.c _)
    rw [List.length_append]
    exact hz
  · cases e
theorem ext_mt : MtM X "list.extend" (Rmt X.K fa extD) := by
  intro pins s σ H x vs v us Q I rx rv h
  obtain ⟨m, S, a, ds, d, S', rs, ra, rl, e, q⟩ := h
  unfold extD at e
  split at e
  · rename_i n xs y ha
    split at e
    · rename_i ys hy
      split at e <;> cases e
      rename_i hz
      obtain ⟨b, ws, rfl, h1, h2, z, l⟩ := lstAt_v rs ra ha
      obtain ⟨w, rfl, rw'⟩ := rpl1 rl
      obtain ⟨b', us', rfl, g1, g2, g3⟩ := see_lst rs rw' hy
      rw [l.length, g3.length] at hz
      refine mt_extend pins s σ H _ _ v us Q I rx rv ⟨_, _, _, _, rfl, rfl, h2, g1, hz, ?_⟩
      refine q _ _ (Gr.write h1) (rs.write h1 ⟨_, rfl, ?_, l.append g3⟩) (.c _)
      rw [List.length_append]
      exact hz
    · cases e
  · cases e
theorem ins_mt : MtR X "list.insert" (Rmt X.K fa insM) := by
  intro pins s σ H x vs v us Q I rx rv h
  obtain ⟨m, S, a, ds, d, S', rs, ra, rl, e, q⟩ := h
  unfold insM at e
  split at e
  · rename_i n xs i y ha
    split at e <;> cases e
    rename_i hz
    obtain ⟨hz, i0, i1⟩ := hz
    obtain ⟨b, ws, rfl, h1, h2, z, l⟩ := lstAt_v rs ra ha
    obtain ⟨w1, w, rfl, r1, rw'⟩ := rpl2 rl
    cases rp_int r1
    rw [l.length] at hz
    refine mt_insert pins s σ H _ _ v us Q I rx rv ⟨_, _, _, _, rfl, rfl, h2, hz, i0, i1, ?_⟩
    refine q _ _ (Gr.write h1) (rs.write h1 ⟨_, rfl, ?_, ((l.take _).append (.cons rw' .nil)).append (l.drop _)⟩) (.c _)
    simp only [List.length_append, List.length_take, List.length_drop, List.length_singleton]
    have : ws.length < sizeLine := hz
    omega
  · cases e
theorem pop_mt : MtR X "list.pop" (fun x vs H Q => ∃ m S a d S', RS X.K fa m S H ∧ Rp X.K fa m H a x ∧ vs = [] ∧ popD a S = .ok d S' ∧ ∀ v H', Gr m H m H' → RS X.K fa m S' H' → Rp X.K fa m H' d v → Q v H') := by
  intro pins s σ H x vs v us Q I rx rv h
  obtain ⟨m, S, a, d, S', rs, ra, rfl, e, q⟩ := h
  unfold popD at e
  split at e
  · rename_i n xs ha
    split at e <;> cases e
    rename_i hz
    obtain ⟨b, ws, rfl, h1, h2, z, l⟩ := lstAt_v rs ra ha
    obtain ⟨w, e1, r1⟩ := l.get hz
    rw [l.length] at e1
    refine mt_pop pins s σ H _ _ v us Q I rx rv ⟨_, _, _, rfl, rfl, h2, e1, ?_⟩
    have gw := Gr.write (H := H) (o := HO.lst ws.dropLast) h1
    refine q _ _ gw (rs.write h1 ⟨_, rfl, ?_, ?_⟩) (r1.mono gw rs)
    · rw [List.length_dropLast]
      omega
    · rw [List.dropLast_eq_take, List.dropLast_eq_take, l.length]
      exact l.take _
  · cases e
theorem getD2_v {a k z d : D} {x y w : V} (rs : RS X.K fa m S H) (ra : Rp X.K fa m H a x) (rk : Rp X.K fa m H k y) (rz : Rp X.K fa m H z w) (e : getD2 a k z S = some d) :
    ∃ b o, x = .ref b ∧ DGet H b y o ∧ Rp X.K fa m H d (o.getD w) := by
  unfold getD2 at e
  split at e
  · rename_i n kvs k' ha hk'
    cases e
    obtain ⟨b, ws, rfl, h1, h2, h3, hk, l⟩ := dctAt_v rs ra ha
    cases kyK_v k' hk' rk
    refine ⟨b, _, rfl, DGet.k h2, ?_⟩
    rcases getK_v k' hk l with ⟨g1, g2⟩ | ⟨d', w', g1, g2, g3⟩
    · rw [g1, g2]; exact rz
    · rw [g1, g2]; exact g3
  · cases e
theorem intKeys_v : ∀ {kvs : List (Ky × D)} {is : List Int} {ws : List (Key × V)}, intKeys kvs = some is → ws.map (·.1) = kvs.map (fun q => kyK q.1) → ws.map (·.1) = is.map Sum.inl
  | [], _, _, h, e => by cases h; exact e
  | (.int i, _) :: r, is, ws, h, e => by
    unfold intKeys at h
    obtain ⟨js, h1, rfl⟩ := Option.map_eq_some_iff.mp h
    cases ws with
    | nil => cases e
    | cons w ws =>
      rw [List.map_cons, List.map_cons] at e
      injection e with e1 e2
      rw [List.map_cons, List.map_cons, intKeys_v h1 e2, e1]
      rfl
  | (.str _, _) :: _, _, _, h, _ => by simp [intKeys] at h
theorem skey_ok (hc : X.calm = true) : CallR X (.builtin "sorted") (fun vs H Q => ∃ m S a d v, vs = [v] ∧ RS X.K fa m S H ∧ Rp X.K fa m H a v ∧ skeyD a S = some d ∧ ∀ v H', Gr m H m H' → RS X.K fa m S H' → Rp X.K fa m H' d v → Q v H') := by
  intro pins s σ H xs us Q I r h
  obtain ⟨m, S, a, d, v, rfl, rs, ra, e, q⟩ := h
  unfold skeyD at e
  split at e
  · rename_i n kvs ha
    obtain ⟨is, h1, h2⟩ := Option.bind_eq_some_iff.mp e
    split at h2 <;> cases h2
    rename_i h64
    obtain ⟨b, ws, rfl, g1, g2, g3, hk, l⟩ := dctAt_v rs ra ha
    refine call_sortedDI hc pins s σ H _ us Q I r ⟨_, _, is, rfl, .inl g2, intKeys_v h1 hk, h64, fun ys p hp hs hn => ?_⟩
    cases sorted_one (hp.trans (sortI_perm is).symm) hs (sortI_sorted is)
    refine fresh_lst (r := rs) q hn ?_ (rp_ints _)
    rw [List.length_map, (sortI_perm is).length_eq]
    exact small64 h64
  · cases e

/-! ### isinstance -/
theorem tyx {d : D} {v : V} {t : String} (rs : RS X.K fa m S H) (r : Rp X.K fa m H d v) (e : typeOfD d = some t) : TyX X.K H v (.type t) := by
  unfold typeOfD at e
  split at e <;> cases e
  · cases r; exact .base .non
  · cases r; exact .base (.bl _)
  · cases r; exact .base (.int _)
  · cases r; exact .base (.str _)
  · cases r with
    | tup t z l =>
      rcases t with (h | ⟨o, h⟩) | ⟨o, its, n, hk, hc, _⟩
      · exact .base (.tup h)
      · exact .fTuple h
      · exact .kTuple hk hc
  · cases r with
    | lst t n z l => exact .base (.lst t)
  · cases r with
    | edc t n => exact .base (.dK t)
theorem isi_ok {n : String} : CallR X (.builtin "isinstance") (fun vs H Q => ∃ m S a d v, vs = [v, .ty n] ∧ RS X.K fa m S H ∧ Rp X.K fa m H a v ∧ isiD a n = some d ∧ Q (.bl d) H) := by
  intro pins s σ H xs us Q I r h
  obtain ⟨m, S, a, d, v, rfl, rs, ra, e, q⟩ := h
  unfold isiD at e
  split at e
  · rename_i t ht
    refine call_isi pins s σ H _ us Q I r ⟨_, _, _, _, d, rfl, .ty n, tyx rs ra ht, ?_, q⟩
    have ht' : t = "NoneType" ∨ t = "bool" ∨ t = "int" ∨ t = "str" ∨ t = "tuple" ∨ t = "list" ∨ t = "dict" := by
      unfold typeOfD at ht
      split at ht <;> cases ht <;> simp
    refine kit_ty ?_
    split at e
    · rename_i hn
      subst hn
      cases e
      rcases ht' with rfl | rfl | rfl | rfl | rfl | rfl | rfl <;> decide +kernel
    · split at e
      · rename_i hn
        cases e
        rcases hn with rfl | rfl | rfl | rfl | rfl <;> rcases ht' with rfl | rfl | rfl | rfl | rfl | rfl | rfl <;> decide +kernel
      · cases e
  · cases e

/-! ### repr -/
mutual
theorem hasDict_py : ∀ d : D, (toPy d).hasDict = false
  | .c .non => rfl
  | .c (.bl _) => rfl
  | .c (.int _) => rfl
  | .c (.str _) => rfl
  | .tup ds => by simp only [toPy, PyData.hasDict]; exact hasDicts_py ds
  | .lst ds => by simp only [toPy, PyData.hasDict]; exact hasDicts_py ds
  | .ref _ => rfl
  | .fn _ => rfl
  | .ty _ => rfl
  | .fz _ => rfl
  | .ptup _ => rfl
  | .edc => rfl
theorem hasDicts_py : ∀ ds : List D, PyData.hasDictAll (toPys ds) = false
  | [] => rfl
  | d :: ds => by simp only [toPys, PyData.hasDictAll, hasDict_py d, hasDicts_py ds]; rfl
end
mutual
theorem okD_py : ∀ d : D, okD d = true → (toPy d).showable = true
  | .c .non, _ => rfl
  | .c (.bl _), _ => rfl
  | .c (.int _), h => h
  | .c (.str _), _ => rfl
  | .tup ds, h => by simp only [toPy, PyData.showable]; exact okDs_py ds (by simpa [okD] using h)
  | .lst ds, h => by simp only [toPy, PyData.showable]; exact okDs_py ds (by simpa [okD] using h)
  | .ref _, _ => rfl
  | .fn _, _ => rfl
  | .ty _, _ => rfl
  | .fz _, _ => rfl
  | .ptup _, _ => rfl
  | .edc, _ => rfl
theorem okDs_py : ∀ ds : List D, okDs ds = true → PyData.showableAll (toPys ds) = true
  | [], _ => rfl
  | d :: ds, h => by
    rw [okDs, Bool.and_eq_true] at h
    simp only [toPys, PyData.showableAll, Bool.and_eq_true]
    exact ⟨okD_py d h.1, okDs_py ds h.2⟩
end
theorem listText_len (ts : List Str) : (listText ts).length ≤ piled ts + 2 := by
  cases ts with
  | nil => decide
  | cons t r =>
    have h := textFrom_length_pos r 1 (("[" : Str) ++ (if 0 > 0 then ", " else "" : String) ++ t) (by decide)
    show (textFrom 1 _ r ++ _).length ≤ _
    rw [strLen_append, h, strLen_append, strLen_append, piled_cons]
    have e1 : (("[" : String) : Str).length = 1 := rfl
    have e2 : (("]" : String) : Str).length = 1 := rfl
    have e3 : ((if 0 > 0 then ", " else "" : String) : Str).length = 0 := rfl
    omega
theorem tupleText_len (ts : List Str) : (tupleText ts).length ≤ piled ts + 3 := by
  unfold tupleText
  rw [strLen_append, strLen_append]
  have e1 : (("(" : String) : Str).length = 1 := rfl
  have e2 : ((if ts.length == 1 then ",)" else ")" : String) : Str).length ≤ 2 := by split <;> decide
  by_cases h : ts = []
  · subst h
    decide
  · have := join_length_add ts h
    omega
theorem piled_cons' (t : Str) (ts : List Str) : piled (t :: ts) = t.length + 2 + piled ts := piled_cons t ts
mutual
theorem wD_py : ∀ d : D, sgD d = true → (PyData.shown (toPy d)).length ≤ wD d
  | .c .non, _ => by decide
  | .c (.bl b), _ => by cases b <;> decide
  | .c (.int i), _ => by
    simp only [toPy, PyData.shown, wD]
    have h := int_text_length_le (a := i) (k := i.natAbs.log2 + 1) (Nat.succ_pos _) (Nat.lt_succ_self _)
    show (Str.ofString (toString i)).length ≤ _
    rw [PySem.ofString_length]
    omega
  | .c (.str x), h => by
    simp only [toPy, PyData.shown, wD]
    refine StrLaws.reprText_len x fun c hc => ?_
    have h : PyData.strOk x = true := h
    unfold PyData.strOk at h
    rw [← Array.all_toList, List.all_eq_true] at h
    have := of_decide_eq_true (h c hc)
    omega
  | .tup ds, h => by
    simp only [toPy, PyData.shown, wD]
    exact Nat.le_trans (tupleText_len _) (Nat.add_le_add_right (wDs_py ds (by simpa [sgD] using h)) 3)
  | .lst ds, h => by
    simp only [toPy, PyData.shown, wD]
    exact Nat.le_trans (listText_len _) (Nat.add_le_add (wDs_py ds (by simpa [sgD] using h)) (by decide))
  | .ref _, _ => by simp only [toPy, wD]; decide
  | .fn _, _ => by simp only [toPy, wD]; decide
  | .ty _, _ => by simp only [toPy, wD]; decide
  | .fz _, _ => by simp only [toPy, wD]; decide
  | .ptup _, _ => by simp only [toPy, wD]; decide
  | .edc, _ => by simp only [toPy, wD]; decide
theorem wDs_py : ∀ ds : List D, sgDs ds = true → piled (PyData.shownAll (toPys ds)) ≤ wDs ds
  | [], _ => Nat.le_refl _
  | d :: ds, h => by
    rw [sgDs, Bool.and_eq_true] at h
    simp only [toPys, PyData.shownAll, wDs]
    rw [piled_cons]
    have h1 := wD_py d h.1
    have h2 := wDs_py ds h.2
    omega
end
theorem eqOk_sg {d : D} (h : eqOk d = true) : sgD d = true := by
  unfold eqOk at h
  simp only [Bool.and_eq_true] at h
  exact h.1.2
theorem repr_ok (hg : X.A.guards = some []) (hu : X.A.units + 65 < cLine) : CallR X (.builtin "repr") (Rcal X.K fa (one reprD)) := by
  intro pins s σ H xs us Q I r h
  obtain ⟨m, S, ds, d, rs, rl, e, q⟩ := h
  obtain ⟨a, rfl, e1⟩ := one_of e
  clear e
  obtain ⟨v, rfl, ra⟩ := rpl1 rl
  unfold reprD at e1
  split at e1 <;> cases e1
  rename_i hk
  simp only [Bool.and_eq_true, decide_eq_true_eq] at hk
  obtain ⟨⟨⟨h1, h2⟩, h3⟩, h4⟩ := hk
  obtain ⟨p, sh⟩ := eqOk_pln h2
  generalize hb : see S a = b at *
  by_cases hc : isC b = true
  · obtain ⟨k, rfl⟩ := isC_ex hc
    cases see_c hb
    cases ra
    have fin := same (r := rs) (d := .str (PyData.shown (toPy (.c k)))) q (.c _)
    cases k with
    | non => exact cr_reprN pins s σ H _ us Q I r ⟨rfl, fin⟩
    | bl b => exact cr_reprB pins s σ H _ us Q I r ⟨b, rfl, fin⟩
    | int i => exact SkE.call_repr_int pins s σ H _ us Q I r ⟨i, rfl, of_decide_eq_true h3, fin⟩
    | str x => exact cr_reprS pins s σ H _ us Q I r ⟨x, rfl, Nat.le_trans (wD_py (.c (.str x)) (eqOk_sg h2)) h4, fin⟩
  have h1 : isSeq b = true := by
    unfold isRep at h1
    rw [Bool.or_eq_true] at h1
    exact h1.resolve_right hc
  have rb : ∃ a' , v = .ref a' ∧ Dp X.K H (.ref a') (toPy b) := by
    cases b with
    | tup ys =>
      cases see_tup hb
      cases ra with
      | tup t z l => exact ⟨_, rfl, Rp.dp (.tup t z l) p⟩
    | lst ys =>
      obtain ⟨a', vs, rfl, g1, g2, g3⟩ := see_lst rs ra hb
      exact ⟨_, rfl, .lst (.of g1) (RpL.dp g3 (by simpa [plnD] using p))⟩
    | _ => simp [isSeq] at h1
  obtain ⟨a', rfl, hd⟩ := rb
  obtain ⟨u, rfl, ru⟩ := vals1 r
  cases ru
  obtain ⟨as, rr⟩ := Dp.reads I (toPy b) _ _ hd rfl
  have hdep : (toPy b).depth ≤ 64 := SeqAt.depth_of_shaped sh
  refine repr_of_reads' rr (okD_py b h3) (PyData.noDict_hsm (hasDict_py b)) hg (by omega) (fun _ _ e => e) (fun h' w tk hk => ?_) (Nat.le_trans (wD_py b (eqOk_sg h2)) h4)
  exact ⟨.str _, H, I.kept hk, ⟨_, rfl⟩, same (r := rs) q (.c _)⟩
end
end Rf

set_option Elab.async false
set_option maxRecDepth 100000
set_option maxHeartbeats 1000000
/-! Rf, part E: which syntax a term stands for; the small facts of syntax. -/
namespace Rf
open PySem PySem.Spec PyProof.Rows L2

structure Row where
  name : Str
  st : Stmt
  N : List Str
  ps : List Str
  body : Sts
structure Tabs where
  rows : List Row
  glbs : List (Str × D)
  free : List Str
  excs : List Str
  /-- so many of them are raised without a word -/
  bare : Nat
  /-- the fields of each -/
  flds : List (List Str) := []

def visB (sc : Scope) (x : Str) : Bool := match sc.names.lookup x with
  | some .local => true
  | some .cell => true
  | some .free => true
  | _ => false
def glB (sc : Scope) (x : Str) : Bool := match sc.names.lookup x with
  | some .globalImplicit => true
  | _ => false
/-- may be stored to -/
def stoB (sc : Scope) (fs : Str → Bool) (x : Str) : Bool := match sc.names.lookup x with
  | some .local => true
  | some .cell => fs x
  | _ => false
def okN (x : Str) : Bool := !(x == ("__debug__" : Str)) && (!(x == ("__classdict__" : Str)) && !decide (x = ("__name__" : Str)))
def slotB (N : List Str) (sc : Scope) (i : Nat) (x : Str) : Bool := decide (N[i]? = some x) && (visB sc x && okN x)
def notStar : Expr → Bool
  | .Starred _ _ => false
  | _ => true
def opB : BOp → Operator → Bool
  | .add, .Add => true
  | .sub, .Sub => true
  | .mul, .Mult => true
  | .div, .FloorDiv => true
  | .mod, .Mod => true
  | .pow, .Pow => true
  | _, _ => false
def opC : COp → CmpOp → Bool
  | .eq, .Eq => true
  | .ne, .NotEq => true
  | .lt, .Lt => true
  | .le, .LtE => true
  | .gt, .Gt => true
  | .ge, .GtE => true
  | .isin, .In => true
  | .notin, .NotIn => true
  | .is, .Is => true
  | .isnot, .IsNot => true
  | _, _ => false
def cstB : Cst → Const → Bool
  | .non, .none => true
  | .bl b, .bool c => b == c
  | .int i, .int j => decide (i = j)
  | .str x, .str y => decide (x = y)
  | _, _ => false
def cstE (k : Cst) : Expr → Bool
  | .Constant c _ _ => cstB k c
  | _ => false
def someE (f : Expr → Bool) : Option Expr → Bool
  | some e => f e
  | none => false
/-- a written dict's pairs -/
def dlitB : List (Int × Cst) → List (Option Expr) → List Expr → Bool
  | [], ks, vs => ks.isEmpty && vs.isEmpty
  | q :: r, ks, vs => (match ks with
    | k :: ks => (match vs with
      | v :: vs => someE (cstE (.int q.1)) k && (cstE q.2 v && dlitB r ks vs)
      | [] => false)
    | [] => false)
/-- a value that isTrue takes as it is -/
def valT : Expr → Bool
  | .Call _ _ _ _ => true
  | .Name _ _ => true
  | .Subscript _ _ _ => true
  | _ => false
def plainB : Expr → Bool
  | .Name _ _ => true
  | .Constant _ _ _ => true
  | .Subscript _ _ _ => true
  | .Attribute _ _ _ => true
  | _ => false
def plainI : Expr → Bool
  | .Name _ _ => true
  | .Constant _ _ _ => true
  | .BinOp _ _ _ _ => true
  | .UnaryOp _ _ _ => true
  | .Call _ _ _ _ => true
  | .Subscript _ _ _ => true
  | _ => false
/-- what is gone through as it is -/
def plainS : Expr → Bool
  | .Tuple _ _ _ => true
  | .List _ _ => true
  | .Name _ _ => true
  | .Call _ _ _ _ => true
  | .Subscript _ _ _ => true
  | .BinOp _ _ _ _ => true
  | .Attribute _ _ _ => true
  | .ListComp _ _ _ _ => true
  | _ => false
def bltName : Blt → Str
  | .len => "len"
  | .all => "all"
  | .any => "any"
  | .sum => "sum"
  | .abs => "abs"
  | .int => "int"
  | .tuple => "tuple"
  | .list => "list"
  | .sorted => "sorted"
  | .min => "min"
  | .max => "max"
  | .repr => "repr"
  | .str => "str"
def isTyName (n : String) : Bool := n == "int" || n == "bool" || n == "str" || n == "tuple" || n == "list" || n == "dict"
def mthName : Mth → Str
  | .append => "append"
  | .extend => "extend"
  | .insert => "insert"
def mthN : Mth → Nat
  | .insert => 2
  | _ => 1
def freeB (Tb : Tabs) (sc : Scope) (x : Str) : Bool := glB sc x && (decide (x ∈ Tb.free) && okN x)
def rowB (Tb : Tabs) (sc : Scope) (f : Nat) (x : Str) : Bool := glB sc x && (okN x && (match Tb.rows[f]? with
  | some r => decide (r.name = x)
  | none => false))
def glbB (Tb : Tabs) (sc : Scope) (g : Nat) (x : Str) : Bool := glB sc x && (okN x && (match Tb.glbs[g]? with
  | some r => decide (r.1 = x)
  | none => false))
mutual
def slotsT : Tg → List Nat
  | .nm i => [i]
  | .tp ts => slotsTs ts
def slotsTs : Tgs → List Nat
  | .nil => []
  | .cons t r => slotsT t ++ slotsTs r
end
def ownL (N : List Str) : List Nat → List (Str × Nat)
  | [] => []
  | i :: r => (match N[i]? with
    | some x => [(x, i)]
    | none => []) ++ ownL N r
/-- an iterable whose pairs are unpacked -/
def isTupE : Expr → Bool
  | .Tuple _ _ _ => true
  | _ => false

section
variable (Tb : Tabs) (N : List Str)
mutual
def chkG (sc : Scope) (fs : Str → Bool) : Tg → Expr → Bool
  | .nm i, .Name x _ => decide (N[i]? = some x) && stoB sc fs x
  | .tp ts, .Tuple es _ _ => chkGs sc fs ts es
  | _, _ => false
def chkGs (sc : Scope) (fs : Str → Bool) : Tgs → List Expr → Bool
  | .nil, [] => true
  | .cons t r, e :: es => notStar e && (chkG sc fs t e && chkGs sc fs r es)
  | _, _ => false
end
/-- what a test looks at by its own parts -/
def ownTst : Tm → Bool
  | .not _ => true
  | .cmp _ _ _ => true
  | .cmp2 _ _ _ _ _ => true
  | .and _ _ => true
  | .or _ _ => true
  | _ => false
mutual
/-- tst: as a test -/
def chk (sc : Scope) : Tm → Bool → Expr → Bool
  | .var i, t, .Name x _ => slotB N sc i x
  | .cst k, t, .Constant c _ _ => !t && cstB k c
  | .glb g, t, .Name x _ => glbB Tb sc g x
  | .fnv f, t, .Name x _ => rowB Tb sc f x
  | .bin op a b, t, .BinOp l o r _ => !t && (opB op o && (chk sc a false l && chk sc b false r))
  | .neg a, t, .UnaryOp .USub e _ => !t && chk sc a false e
  | .not a, t, .UnaryOp .Not e _ => chk sc a t e
  | .cmp op a b, t, .Compare l [o] [r] _ => opC op o && (chk sc a false l && (chk sc b false r && !behindInMarks o r))
  | .cmp2 op op' a b e, t, .Compare l [o, o'] [r, r'] _ => opC op o && (opC op' o' && (chk sc a false l && (chk sc b false r && (chk sc e false r' && !lastMarks [o, o'] [r, r']))))
  | .and a b, t, .BoolOp .And (x :: y :: r) pos => chk sc a t x && (match r with
    | [] => chk sc b t y
    | _ => chk sc b t (.BoolOp .And (y :: r) pos))
  | .or a b, t, .BoolOp .Or (x :: y :: r) pos => chk sc a t x && (match r with
    | [] => chk sc b t y
    | _ => chk sc b t (.BoolOp .Or (y :: r) pos))
  | .ite c a b, t, .IfExp z x y _ => !t && (chk sc c true z && (chk sc a false x && chk sc b false y))
  | .call f as, t, .Call (.Name x _) (e :: es) [] _ => rowB Tb sc f x && chks sc as (e :: es)
  | .callk f as, t, .Call (.Name x _) (e :: es) [] _ => rowB Tb sc f x && chks sc as (e :: es)
  | .callv i as, t, .Call (.Name x _) (e :: es) [] _ => slotB N sc i x && chks sc as (e :: es)
  | .blt b as, t, .Call (.Name x _) (e :: es) [] _ => decide (bltName b = x) && (freeB Tb sc x && chks sc as (e :: es))
  | .isi a n, t, .Call (.Name x _) [e, .Name y _] [] _ => decide (x = "isinstance") && (freeB Tb sc x && (chk sc a false e && (notStar e && (decide (y = Str.ofString n) && (freeB Tb sc y && isTyName n)))))
  | .mth m o as, t, .Call (.Attribute e x ap) (e1 :: es) [] cp => !t && (decide (mthName m = x) && (chk sc o false e && (chks sc as (e1 :: es) && (plainB e && ((ap.endLine == cp.line) && decide (es.length + 1 = mthN m))))))
  | .dget o k z, t, .Call (.Attribute e x ap) [e1, e2] [] cp => !t && (decide (x = "get") && (chk sc o false e && (chk sc k false e1 && (chk sc z false e2 && (notStar e1 && (notStar e2 && (plainB e && (ap.endLine == cp.line))))))))
  | .skey o, t, .Call (.Name x _) [e] [] _ => decide (x = "sorted") && (freeB Tb sc x && (chk sc o false e && notStar e))
  | .idx a i, t, .Subscript e b _ => chk sc a false e && (chk sc i false b && plainI b)
  | .slc a lo hi, t, .Subscript e (.Slice l h none _) _ => !t && (chk sc a false e && (chkO sc lo l && chkO sc hi h))
  | .tup as, t, .Tuple es _ _ => !t && (chks sc as es && decide (es.length ≤ 1000))
  | .lst as, t, .List es _ => !t && (chks sc as es && decide (es.length ≤ 1000))
  | .new as, t, .List es _ => !t && (chks sc as es && decide (es.length ≤ 1000))
  | .newd, t, .Dict [] [] _ => !t
  | .rgl tp a, t, .Call (.Name y _) [.Call (.Name x _) [e] [] _] [] _ => !t && (decide (y = if tp then "tuple" else "list") && (freeB Tb sc y && (decide (x = "range") && (freeB Tb sc x && (chk sc a false e && notStar e)))))
  | .rev a, t, .Subscript e (.Slice none none (some (.UnaryOp .USub (.Constant (.int i) _ _) _)) _) _ => !t && (decide (i = 1) && chk sc a false e)
  | .sum2 a, t, .Call (.Name x _) [e, .List [] _] [] _ => !t && (decide (x = "sum") && (freeB Tb sc x && (chk sc a false e && notStar e)))
  | .sset a, t, .Call (.Name x _) [.Call (.Name y _) [e] [] _] [] _ => !t && (decide (x = "sorted") && (freeB Tb sc x && (decide (y = "set") && (freeB Tb sc y && (chk sc a false e && notStar e)))))
  | .varw i, t, .Name x _ => !t && slotB N sc i x
  | .tupp a, t, .Call (.Name x _) [e] [] _ => !t && (decide (x = "tuple") && (freeB Tb sc x && (chk sc a false e && notStar e)))
  | .tix i a, t, .Call (.Attribute (.Name x _) y ap) [e1] [] cp => !t && (decide (y = "index") && (slotB N sc i x && (chk sc a false e1 && (notStar e1 && (ap.endLine == cp.line)))))
  | .edct, t, .Dict [] [] _ => !t
  | .dlx kvs i, t, .Subscript (.Dict ks vs _) b _ => !t && (decide (kvs.map (·.1)).Nodup && (decide (kvs.length ≤ 15) && (!kvs.isEmpty && (dlitB kvs ks vs && (chk sc i false b && plainI b)))))
  | .smth b o a, t, .Call (.Attribute e x ap) [e1] [] cp => !t && (decide (x = if b then "join" else "split") && (chk sc o false e && (chk sc a false e1 && (notStar e1 && (plainB e && (ap.endLine == cp.line))))))
  | .lkeys o, t, .Call (.Name x _) [.Call (.Attribute e y ap) [] [] cp] [] _ => !t && (decide (x = "list") && (freeB Tb sc x && (decide (y = "keys") && (chk sc o false e && (plainB e && (ap.endLine == cp.line))))))
  | .pop o, t, .Call (.Attribute e x ap) [] [] cp => !t && (decide (x = "pop") && (chk sc o false e && (plainB e && (ap.endLine == cp.line))))
  | .newc a, t, .Call (.Name x _) [e] [] _ => !t && (decide (x = "list") && (freeB Tb sc x && (chk sc a false e && notStar e)))
  | .comp e own tg s ifs, t, .ListComp elt [⟨tgE, iter, ifsE, 0⟩] scope _ => !t && (blkC N sc scope (ownL N own) && (decide ((ownL N own).map (·.2) = own) && (chkS sc s tgE iter && (plainS iter && (chkG N (relS scope sc) (fun x => scope.names.lookup x == some .cell) tg tgE &&
      ((slotsT tg).all (own.contains ·) && (chk (relS scope sc) e false elt && chkF (relS scope sc) ifs ifsE)))))))
  | _, _, _ => false
def chks (sc : Scope) : Tms → List Expr → Bool
  | .nil, [] => true
  | .cons a r, e :: es => notStar e && (chk sc a false e && chks sc r es)
  | _, _ => false
/-- a slice's bound -/
def chkO (sc : Scope) : Tms → Option Expr → Bool
  | .nil, none => true
  | .cons a .nil, some e => chk sc a false e
  | _, _ => false
/-- a clause's tests -/
def chkF (sc : Scope) : Tms → List Expr → Bool
  | .nil, [] => true
  | .cons a .nil, [e] => chk sc a true e
  | _, _ => false
/-- what is gone through -/
def chkS (sc : Scope) : Sr → Expr → Expr → Bool
  | .seq a, _, e => chk sc a false e
  | .enum as, tg, .Call (.Name x _) [e] [] _ => isTupE tg && (decide (x = "enumerate") && (freeB Tb sc x && chks sc as [e]))
  | .zip as, tg, .Call (.Name x _) [e, e'] [] _ => isTupE tg && (decide (x = "zip") && (freeB Tb sc x && chks sc as [e, e']))
  | .rng as, _, .Call (.Name x _) [e] [] _ => decide (x = "range") && (freeB Tb sc x && chks sc as [e])
  | .rng as, _, .Call (.Name x _) [e, e'] [] _ => decide (x = "range") && (freeB Tb sc x && chks sc as [e, e'])
  | .rng as, _, .Call (.Name x _) [e, e', e''] [] _ => decide (x = "range") && (freeB Tb sc x && chks sc as [e, e', e''])
  | _, _, _ => false
end
end
end Rf

set_option Elab.async false
set_option maxRecDepth 100000
set_option maxHeartbeats 1000000
/-! Rf, part F: readings of terms, each construct by its parts. -/
namespace Rf
open PySem PySem.Spec PyProof.Rows L2

/-- where defs, exception classes stand; the fields of an exception -/
structure Pl where
  K : PySem.W.Frag
  fa : Nat → Option Addr
  ca : Nat → Option Value
  fl : Nat → List Str
section
variable (L : Pl)
def RX (m : List Addr) (H : Hp) (e : Ex) (cls : Value) (dd : Option Addr) : Prop := L.ca e.cls = some cls ∧
  ((e.args = [] ∧ dd = none) ∨ ∃ d fs, dd = some d ∧ H d = some (.xd fs) ∧ fs.map (·.1) = L.fl e.cls ∧ RpL L.K L.fa m H e.args (fs.map (·.2)))
/-- what is wanted behind -/
def Pst {α β : Type} (R : List Addr → Hp → α → β → Prop) (W : WX) (τ : L2.St) (m : List Addr) (H : Hp) (Q : β → Hp → Prop) : Res α → Prop
  | .ok d S' => ∀ v m' H', Gr m H m' H' → RS L.K L.fa m' S' H' → R m' H' d v → Q v H'
  | .ex e S' => ∀ cls dd m' H', Gr m H m' H' → RS L.K L.fa m' S' H' → RX L m' H' e cls dd → W cls dd τ H'
  | .bad => False
def Rd {α β : Type} (R : List Addr → Hp → α → β → Prop) (W : WX) (f : Env → Store → Res α) : L2.St → Hp → (β → Hp → Prop) → Prop :=
  fun τ H Q => ∃ σ S m, RS L.K L.fa m S H ∧ RE L.K L.fa m H σ τ ∧ Pst L R W τ m H Q (f σ S)
def asB (r : Res D) : Res Bool := r.bind fun x S => match x with
  | .c (.bl b) => .ok b S
  | _ => .bad
abbrev RdE (W : WX) (f : Env → Store → Res D) : TE := Rd L (Rp L.K L.fa) W f
abbrev RdA (W : WX) (f : Env → Store → Res (List D)) : TA := Rd L (RpL L.K L.fa) W f
abbrev RdT (W : WX) (f : Env → Store → Res D) : TT := Rd L (fun _ _ (a b : Bool) => a = b) W (fun σ S => asB (f σ S))
end
section
variable {L : Pl} {α β γ δ : Type} {R : List Addr → Hp → α → β → Prop} {R' : List Addr → Hp → γ → δ → Prop} {W : WX} {τ : L2.St} {m m' : List Addr} {H H' : Hp} {S : Store}
theorem Pst.step {Q : β → Hp → Prop} {r : Res α} (g : Gr m H m' H') (p : Pst L R W τ m H Q r) : Pst L R W τ m' H' Q r := by
  cases r with
  | ok a S' => exact fun v m2 H2 g2 rs rr => p v m2 H2 (g.trans g2) rs rr
  | ex e S' => exact fun c d m2 H2 g2 rs rr => p c d m2 H2 (g.trans g2) rs rr
  | bad => exact p
theorem Pst.imp {Q Q' : β → Hp → Prop} {r : Res α} (p : Pst L R W τ m H Q r) (h : ∀ v H, Q v H → Q' v H) : Pst L R W τ m H Q' r := by
  cases r with
  | ok a S' => exact fun v m2 H2 g2 rs rr => h _ _ (p v m2 H2 g2 rs rr)
  | ex e S' => exact p
  | bad => exact p
/-- the heart: what stands behind a bind -/
theorem Pst.bind {Q : δ → Hp → Prop} {r : Res α} {g : α → Store → Res γ} (p : Pst L R' W τ m H Q (r.bind g)) :
    Pst L R W τ m H (fun v H1 => ∃ a S1 m1, Gr m H m1 H1 ∧ RS L.K L.fa m1 S1 H1 ∧ R m1 H1 a v ∧ Pst L R' W τ m1 H1 Q (g a S1)) r := by
  cases r with
  | ok a S' => exact fun v m2 H2 g2 rs rr => ⟨a, S', m2, g2, rs, rr, p.step g2⟩
  | ex e S' => exact p
  | bad => exact p
theorem Pst.lift {Q : β → Hp → Prop} {o : Option α} (p : Pst L R W τ m H Q (lift o S)) : ∃ d, o = some d ∧ ∀ v m' H', Gr m H m' H' → RS L.K L.fa m' S H' → R m' H' d v → Q v H' := by
  cases o with
  | none => exact p.elim
  | some d => exact ⟨d, rfl, p⟩
theorem Pst.liftD {Q : β → Hp → Prop} {o : Option α} (p : Pst L R W τ m H Q (Rf.lift o S)) : ∃ d, o = some d ∧ ∀ v H', Gr m H m H' → RS L.K L.fa m S H' → R m H' d v → Q v H' :=
  let ⟨d, e, q⟩ := p.lift; ⟨d, e, fun v H' => q v m H'⟩
end
/-- the context that the terms are read in -/
structure Good (X : Cx) (L : Pl) (N : List Str) (sc : Scope) (W : WX) : Prop where
  hL : X.K = L.K
  hN : X.N = N
  nd : N.Nodup
  hsc : X.env.scope = sc
  calm : X.calm = true
  hd : X.A.handled = none
  un : X.A.units + 200 < cLine
  gd : X.A.guards = some []
  tk : L2N.Takes X W

theorem visB_ok {sc : Scope} {x : Str} (h : visB sc x = true) : Vis sc x := by
  unfold visB at h
  split at h
  · rename_i e; exact .inl e
  · rename_i e; exact .inr (.inl e)
  · rename_i e; exact .inr (.inr e)
  · cases h
theorem glB_ok {X : Cx} {x : Str} (h : glB X.env.scope x = true) : Gl X x := by
  unfold glB at h
  split at h
  · rename_i e; exact e
  · cases h
theorem okN_ok {x : Str} (h : okN x = true) : (x == ("__debug__" : Str)) = false ∧ (x == ("__classdict__" : Str)) = false ∧ x ≠ "__name__" := by
  unfold okN at h
  simp only [Bool.and_eq_true, Bool.not_eq_true', decide_eq_false_iff_not] at h
  exact ⟨h.1, h.2.1, h.2.2⟩
theorem star_cons {e : Expr} {es : List Expr} {env : PySem.Env} (h : notStar e = true) : starEach (e :: es) env = (false, eval e env) :: starEach es env := by
  cases e <;> first | rfl | (exact absurd (show false = true from h) Bool.false_ne_true)
theorem bA {a b : Bool} (h : (a && b) = true) : a = true ∧ b = true := Bool.and_eq_true_iff.mp h

section
variable {X : Cx} {L : Pl} {N : List Str} {sc : Scope} {W : WX} (g : Good X L N sc W) {G : Nat → Option D} {F : Cl}
include g
theorem e_var {i : Nat} {x : Str} {pos : Pos} (h : slotB N sc i x = true) : PE X (.Name x pos) (RdE L W (ev G F (.var i))) := by
  obtain ⟨h1, h⟩ := bA h
  obtain ⟨h2, h3⟩ := bA h
  obtain ⟨d1, d2, d3⟩ := okN_ok h3
  refine PE.weak (pe_var (i := i) (by rw [g.hN]; exact of_decide_eq_true h1) (by rw [g.hsc]; exact visB_ok h2) d1 d2) fun τ H Q ⟨σ, S, m, rs, re, p⟩ => ?_
  simp only [ev] at p
  split at p
  · rename_i d hd
    obtain ⟨v, e1, e2⟩ := re.at_ i d hd
    exact ⟨v, e1, p v m H (.refl _ _) rs e2⟩
  · exact p.elim
theorem e_cst {k : Cst} {c : Const} {j : Nat} {pos : Pos} (h : cstB k c = true) : PE X (.Constant c j pos) (RdE L W (ev G F (.cst k))) := by
  have fin : ∀ τ H Q, RdE L W (ev G F (.cst k)) τ H Q → tC (cV k) τ H Q := fun τ H Q ⟨σ, S, m, rs, re, p⟩ => by
    simp only [ev] at p
    exact p _ m H (.refl _ _) rs (.c k)
  unfold cstB at h
  split at h
  · exact PE.weak pe_non fin
  · rename_i b c'
    obtain rfl : b = c' := eq_of_beq h
    exact PE.weak pe_bl fin
  · rename_i b c'
    obtain rfl : b = c' := of_decide_eq_true h
    exact PE.weak pe_int fin
  · rename_i b c'
    obtain rfl : b = c' := of_decide_eq_true h
    exact PE.weak pe_str fin
  · cases h
/-- a name of the module -/
theorem e_name {x : Str} {pos : Pos} {t : Tm} {d : D} {v : V} {u : Value} (hg : glB sc x = true) (ho : okN x = true) (hm : X.mg x = some u) (r : RelV v u) (hd : ∀ m H, Rp L.K L.fa m H d v) (he : ∀ σ S, ev G F t σ S = .ok d S) :
    PE X (.Name x pos) (RdE L W (ev G F t)) := by
  refine PE.weak (pe_glob (glB_ok (by rw [g.hsc]; exact hg)) hm r (okN_ok ho).1) fun τ H Q ⟨σ, S, m, rs, re, p⟩ => ?_
  rw [he] at p
  exact p v m H (.refl _ _) rs (hd m H)
theorem R2of_bin {op : BOp} {o : Operator} (h : opB op o = true) : OpR X (binaryOp o) (R2of L.K L.fa fun a b _ => binD op a b) := by
  rw [← g.hL]
  unfold opB at h
  split at h
  · exact op_addD
  · exact op_subD
  · exact op_mulD
  · exact op_divD
  · exact op_modD
  · exact op_powD
  · cases h
theorem R2b_cmp {op : COp} {o : CmpOp} (h : opC op o = true) : OpR X (compareOp o) (R2b L.K L.fa (cmpD op)) := by
  have hu := g.un
  rw [← g.hL]
  unfold opC at h
  split at h
  · exact op_eqDD (by omega)
  · exact op_neDD (by omega)
  · exact op_qD op_lt
  · exact op_qD op_le
  · exact op_qD op_gt
  · exact op_qD op_ge
  · exact op_inDD (by omega)
  · exact op_notInDD (by omega)
  · exact op_isDD
  · exact op_isnotDD
  · cases h
theorem e_bin {op : BOp} {a b : Tm} {l r : Expr} {o : Operator} {pos : Pos} (h : opB op o = true) (ha : PE X l (RdE L W (ev G F a))) (hb : PE X r (RdE L W (ev G F b))) : PE X (.BinOp l o r pos) (RdE L W (ev G F (.bin op a b))) := by
  refine PE.weak (pe_op (R2of_bin g h) ha hb) fun τ H Q ⟨σ, S, m, rs, re, p⟩ => ?_
  simp only [ev] at p
  refine ⟨σ, S, m, rs, re, (Pst.bind p).imp fun x H1 ⟨da, S1, m1, g1, rs1, ra, p1⟩ => ?_⟩
  refine ⟨σ, S1, m1, rs1, re.mono g1 rs, (Pst.bind p1).imp fun y H2 ⟨db, S2, m2, g2, rs2, rb, p2⟩ => ?_⟩
  obtain ⟨d, e, q⟩ := p2.liftD
  exact ⟨m2, S2, da, db, d, rs2, ra.mono g2 rs1, rb, e, q⟩
theorem e_neg {a : Tm} {l : Expr} {pos : Pos} (ha : PE X l (RdE L W (ev G F a))) : PE X (.UnaryOp .USub l pos) (RdE L W (ev G F (.neg a))) := by
  refine PE.weak (pe_un un_neg ha) fun τ H Q ⟨σ, S, m, rs, re, p⟩ => ?_
  simp only [ev] at p
  refine ⟨σ, S, m, rs, re, (Pst.bind p).imp fun x H1 ⟨da, S1, m1, g1, rs1, ra, p1⟩ => ?_⟩
  split at p1
  · cases ra
    exact ⟨_, rfl, p1 _ m1 H1 (.refl _ _) rs1 (.c _)⟩
  · exact p1.elim
theorem e_not {a : Tm} {l : Expr} {pos : Pos} (ha : PE X l (RdE L W (ev G F a))) : PE X (.UnaryOp .Not l pos) (RdE L W (ev G F (.not a))) := by
  refine PE.weak (pe_not ha) fun τ H Q ⟨σ, S, m, rs, re, p⟩ => ?_
  simp only [ev] at p
  refine ⟨σ, S, m, rs, re, (Pst.bind p).imp fun x H1 ⟨da, S1, m1, g1, rs1, ra, p1⟩ => ?_⟩
  split at p1
  · cases ra
    exact ⟨_, rfl, p1 _ m1 H1 (.refl _ _) rs1 (.c _)⟩
  · exact p1.elim
omit g in
theorem rdT_E {f : Env → Store → Res D} {τ : L2.St} {H : Hp} {Q : Bool → Hp → Prop} (h : RdT L W f τ H Q) : RdE L W f τ H (fun x H' => ∃ k, x = .bl k ∧ Q k H') := by
  obtain ⟨σ, S, m, rs, re, p⟩ := h
  refine ⟨σ, S, m, rs, re, ?_⟩
  dsimp only at p
  unfold asB at p
  cases e : f σ S with
  | ok d S' =>
    rw [e, bind_ok] at p
    intro v m' H' g1 rs1 r
    split at p
    · cases r
      exact ⟨_, rfl, p _ m' H' g1 rs1 rfl⟩
    · exact p.elim
  | ex x S' =>
    rw [e, bind_ex] at p
    exact p
  | bad =>
    rw [e, bind_bad] at p
    exact p.elim
omit g in
theorem w_cmp {op : COp} {a b : Tm} {τ : L2.St} {H : Hp} {Q : VK} : RdE L W (ev G F (.cmp op a b)) τ H Q → tOp (R2b L.K L.fa (cmpD op)) (RdE L W (ev G F a)) (RdE L W (ev G F b)) τ H Q := fun ⟨σ, S, m, rs, re, p⟩ => by
  simp only [ev] at p
  refine ⟨σ, S, m, rs, re, (Pst.bind p).imp fun x H1 ⟨da, S1, m1, g1, rs1, ra, p1⟩ => ?_⟩
  refine ⟨σ, S1, m1, rs1, re.mono g1 rs, (Pst.bind p1).imp fun y H2 ⟨db, S2, m2, g2, rs2, rb, p2⟩ => ?_⟩
  obtain ⟨d, e, q⟩ := p2.liftD
  obtain ⟨b, e1, rfl⟩ := Option.map_eq_some_iff.mp e
  exact ⟨m2, S2, da, db, b, rs2, ra.mono g2 rs1, rb, e1, q _ H2 (.refl _ _) rs2 (.c _)⟩
theorem e_cmp {op : COp} {a b : Tm} {l r : Expr} {o : CmpOp} {pos : Pos} (h : opC op o = true) (hm : behindInMarks o r = false) (ha : PE X l (RdE L W (ev G F a))) (hb : PE X r (RdE L W (ev G F b))) : PE X (.Compare l [o] [r] pos) (RdE L W (ev G F (.cmp op a b))) :=
  PE.weak (pe_cmpR (R2b_cmp g h) ha hb hm) fun τ H Q h => w_cmp h
theorem t_cmp {op : COp} {a b : Tm} {l r : Expr} {o : CmpOp} {pos : Pos} (h : opC op o = true) (hm : behindInMarks o r = false) (ha : PE X l (RdE L W (ev G F a))) (hb : PE X r (RdE L W (ev G F b))) : PT X (.Compare l [o] [r] pos) (RdT L W (ev G F (.cmp op a b))) :=
  PT.weak (pt_cmpR (R2b_cmp g h) ha hb hm) fun τ H Q h => w_cmp (rdT_E h)
omit g in
theorem w_cmp2 {op op' : COp} {a b e : Tm} {τ : L2.St} {H : Hp} {Q : VK} : RdE L W (ev G F (.cmp2 op op' a b e)) τ H Q → tChain (R2b L.K L.fa (cmpD op)) (R2b L.K L.fa (cmpD op')) (RdE L W (ev G F a)) (RdE L W (ev G F b)) (RdE L W (ev G F e)) τ H Q := fun ⟨σ, S, m, rs, re, p⟩ => by
  simp only [ev] at p
  refine ⟨σ, S, m, rs, re, (Pst.bind p).imp fun x H1 ⟨da, S1, m1, g1, rs1, ra, p1⟩ => ?_⟩
  refine ⟨σ, S1, m1, rs1, re.mono g1 rs, (Pst.bind p1).imp fun y H2 ⟨db, S2, m2, g2, rs2, rb, p2⟩ => ?_⟩
  split at p2
  · rename_i e1
    refine ⟨m2, S2, da, db, true, rs2, ra.mono g2 rs1, rb, e1, true, rfl, ?_⟩
    rw [if_pos rfl]
    refine ⟨σ, S2, m2, rs2, (re.mono g1 rs).mono g2 rs1, (Pst.bind p2).imp fun z H3 ⟨dc, S3, m3, g3, rs3, rc, p3⟩ => ?_⟩
    obtain ⟨d, e2, q⟩ := p3.liftD
    obtain ⟨b, e3, rfl⟩ := Option.map_eq_some_iff.mp e2
    exact ⟨m3, S3, db, dc, b, rs3, rb.mono g3 rs2, rc, e3, q _ H3 (.refl _ _) rs3 (.c _)⟩
  · rename_i e1
    refine ⟨m2, S2, da, db, false, rs2, ra.mono g2 rs1, rb, e1, false, rfl, ?_⟩
    rw [if_neg Bool.false_ne_true]
    exact p2 _ m2 H2 (.refl _ _) rs2 (.c _)
  · exact p2.elim
theorem e_cmp2 {op op' : COp} {a b e : Tm} {l r r' : Expr} {o o' : CmpOp} {pos : Pos} (h : opC op o = true) (h' : opC op' o' = true) (hm : lastMarks [o, o'] [r, r'] = false) (ha : PE X l (RdE L W (ev G F a))) (hb : PE X r (RdE L W (ev G F b))) (hc : PE X r' (RdE L W (ev G F e))) :
    PE X (.Compare l [o, o'] [r, r'] pos) (RdE L W (ev G F (.cmp2 op op' a b e))) :=
  PE.weak (pe_chain (R2b_cmp g h) (R2b_cmp g h') ha hb hc hm) fun τ H Q h => w_cmp2 h
theorem t_cmp2 {op op' : COp} {a b e : Tm} {l r r' : Expr} {o o' : CmpOp} {pos : Pos} (h : opC op o = true) (h' : opC op' o' = true) (hm : lastMarks [o, o'] [r, r'] = false) (ha : PE X l (RdE L W (ev G F a))) (hb : PE X r (RdE L W (ev G F b))) (hc : PE X r' (RdE L W (ev G F e))) :
    PT X (.Compare l [o, o'] [r, r'] pos) (RdT L W (ev G F (.cmp2 op op' a b e))) :=
  PT.weak (pt_chain (R2b_cmp g h) (R2b_cmp g h') ha hb hc hm) fun τ H Q h => w_cmp2 (rdT_E h)
theorem e_and {a b : Tm} {l r : Expr} {rest : List Expr} {pos : Pos} (ha : PE X l (RdE L W (ev G F a))) (hb : PE X (.BoolOp .And (r :: rest) pos) (RdE L W (ev G F b))) : PE X (.BoolOp .And (l :: r :: rest) pos) (RdE L W (ev G F (.and a b))) := by
  refine PE.weak (pe_and ha hb) fun τ H Q ⟨σ, S, m, rs, re, p⟩ => ?_
  simp only [ev] at p
  refine ⟨σ, S, m, rs, re, (Pst.bind p).imp fun x H1 ⟨da, S1, m1, g1, rs1, ra, p1⟩ => ?_⟩
  split at p1
  · cases ra
    exact ⟨true, rfl, by rw [if_pos rfl]; exact ⟨σ, S1, m1, rs1, re.mono g1 rs, p1⟩⟩
  · cases ra
    exact ⟨false, rfl, by rw [if_neg Bool.false_ne_true]; exact p1 _ m1 H1 (.refl _ _) rs1 (.c _)⟩
  · exact p1.elim
theorem e_or {a b : Tm} {l r : Expr} {rest : List Expr} {pos : Pos} (ha : PE X l (RdE L W (ev G F a))) (hb : PE X (.BoolOp .Or (r :: rest) pos) (RdE L W (ev G F b))) : PE X (.BoolOp .Or (l :: r :: rest) pos) (RdE L W (ev G F (.or a b))) := by
  refine PE.weak (pe_or ha hb) fun τ H Q ⟨σ, S, m, rs, re, p⟩ => ?_
  simp only [ev] at p
  refine ⟨σ, S, m, rs, re, (Pst.bind p).imp fun x H1 ⟨da, S1, m1, g1, rs1, ra, p1⟩ => ?_⟩
  split at p1
  · cases ra
    exact ⟨true, rfl, by rw [if_pos rfl]; exact p1 _ m1 H1 (.refl _ _) rs1 (.c _)⟩
  · cases ra
    exact ⟨false, rfl, by rw [if_neg Bool.false_ne_true]; exact ⟨σ, S1, m1, rs1, re.mono g1 rs, p1⟩⟩
  · exact p1.elim
omit g in
/-- a test's reading by what its first part says -/
theorem rdT_bind {f : Env → Store → Res D} {h : D → Env → Store → Res D} {τ : L2.St} {H : Hp} {Q : Bool → Hp → Prop} (q : RdT L W (fun σ S => (f σ S).bind fun x S => h x σ S) τ H Q) (hb : ∀ x σ S, (∀ b, x ≠ .c (.bl b)) → h x σ S = .bad) :
    RdT L W f τ H (fun c H1 => RdT L W (h (.c (.bl c))) τ H1 Q) := by
  obtain ⟨σ, S, m, rs, re, p⟩ := q
  refine ⟨σ, S, m, rs, re, ?_⟩
  dsimp only at p ⊢
  unfold asB at p ⊢
  cases e : f σ S with
  | ok d S' =>
    rw [e, bind_ok] at p
    rw [bind_ok]
    split
    · intro v m' H' g1 rs1 r
      subst r
      refine ⟨σ, S', m', rs1, re.mono g1 rs, ?_⟩
      exact p.step g1
    · rename_i hn
      rw [hb d σ S' (fun b eb => hn b eb)] at p
      exact p.elim
  | ex x S' =>
    rw [e, bind_ex, bind_ex] at p
    rw [bind_ex]
    exact p
  | bad =>
    rw [e, bind_bad, bind_bad] at p
    exact p.elim
theorem t_not {a : Tm} {l : Expr} {pos : Pos} (ha : PT X l (RdT L W (ev G F a))) : PT X (.UnaryOp .Not l pos) (RdT L W (ev G F (.not a))) := by
  refine PT.weak (pt_not ha) fun τ H Q q => ?_
  have q' := rdT_bind (f := ev G F a) (h := fun x σ S => match x with | .c (.bl b) => .ok (.bl (!b)) S | _ => .bad) q (fun x σ S h => by
    split
    · exact absurd rfl (h _)
    · rfl)
  obtain ⟨σ, S, m, rs, re, p⟩ := q'
  refine ⟨σ, S, m, rs, re, p.imp fun c H1 ⟨σ1, S1, m1, rs1, re1, p1⟩ => ?_⟩
  exact p1 _ m1 H1 (.refl _ _) rs1 rfl
theorem t_and {a b : Tm} {l r : Expr} {rest : List Expr} {pos : Pos} (ha : PT X l (RdT L W (ev G F a))) (hb : PW X (.BoolOp .And (r :: rest) pos) (RdT L W (ev G F b))) : PW X (.BoolOp .And (l :: r :: rest) pos) (RdT L W (ev G F (.and a b))) := by
  refine PW.weak (pw_and ha hb) fun τ H Q q => ?_
  have q' := rdT_bind (f := ev G F a) (h := fun x σ S => match x with | .c (.bl true) => ev G F b σ S | .c (.bl false) => .ok (.bl false) S | _ => .bad) q (fun x σ S h => by
    split
    · exact absurd rfl (h _)
    · exact absurd rfl (h _)
    · rfl)
  obtain ⟨σ, S, m, rs, re, p⟩ := q'
  refine ⟨σ, S, m, rs, re, p.imp fun c H1 h1 => ?_⟩
  cases c with
  | true => rw [if_pos rfl]; exact h1
  | false =>
    rw [if_neg Bool.false_ne_true]
    obtain ⟨σ1, S1, m1, rs1, re1, p1⟩ := h1
    exact p1 _ m1 H1 (.refl _ _) rs1 rfl
theorem t_or {a b : Tm} {l r : Expr} {rest : List Expr} {pos : Pos} (ha : PT X l (RdT L W (ev G F a))) (hb : PW X (.BoolOp .Or (r :: rest) pos) (RdT L W (ev G F b))) : PW X (.BoolOp .Or (l :: r :: rest) pos) (RdT L W (ev G F (.or a b))) := by
  refine PW.weak (pw_or ha hb) fun τ H Q q => ?_
  have q' := rdT_bind (f := ev G F a) (h := fun x σ S => match x with | .c (.bl true) => .ok (.bl true) S | .c (.bl false) => ev G F b σ S | _ => .bad) q (fun x σ S h => by
    split
    · exact absurd rfl (h _)
    · exact absurd rfl (h _)
    · rfl)
  obtain ⟨σ, S, m, rs, re, p⟩ := q'
  refine ⟨σ, S, m, rs, re, p.imp fun c H1 h1 => ?_⟩
  cases c with
  | true =>
    rw [if_pos rfl]
    obtain ⟨σ1, S1, m1, rs1, re1, p1⟩ := h1
    exact p1 _ m1 H1 (.refl _ _) rs1 rfl
  | false => rw [if_neg Bool.false_ne_true]; exact h1
theorem e_ite {t a b : Tm} {c l r : Expr} {pos : Pos} (hc : PT X c (RdT L W (ev G F t))) (ha : PE X l (RdE L W (ev G F a))) (hb : PE X r (RdE L W (ev G F b))) : PE X (.IfExp c l r pos) (RdE L W (ev G F (.ite t a b))) := by
  refine PE.weak (pe_ifExp hc ha hb) fun τ H Q ⟨σ, S, m, rs, re, p⟩ => ?_
  simp only [ev] at p
  refine ⟨σ, S, m, rs, re, ?_⟩
  dsimp only
  unfold asB
  cases e : ev G F t σ S with
  | ok d S' =>
    rw [e, bind_ok] at p
    rw [bind_ok]
    split at p
    · intro v m' H' g1 rs1 r
      subst r
      rw [if_pos rfl]
      exact ⟨σ, S', m', rs1, re.mono g1 rs, p.step g1⟩
    · intro v m' H' g1 rs1 r
      subst r
      rw [if_neg Bool.false_ne_true]
      exact ⟨σ, S', m', rs1, re.mono g1 rs, p.step g1⟩
    · exact p.elim
  | ex x S' =>
    rw [e, bind_ex] at p
    exact p
  | bad =>
    rw [e, bind_bad] at p
    exact p.elim
/-- a value as a test -/
theorem t_val {a : Tm} {e : Expr} (h : valT e = true) (ha : PE X e (RdE L W (ev G F a))) : PT X e (RdT L W (ev G F a)) := by
  refine PT.weak (pt_val ha ?_) fun τ H Q h => rdT_E h
  intro whole
  cases e <;> first | rfl | (exact absurd (show false = true from h) Bool.false_ne_true)
end
end Rf

set_option Elab.async false
set_option maxRecDepth 100000
set_option maxHeartbeats 1000000
/-! Rf, part G: arguments, calls, built-ins, methods, places, displays. -/
namespace Rf
open PySem PySem.Spec PyProof.Rows L2

/-- a def's promise where nothing shows itself around -/
structure FnG (P : Program) (w : World) (K : PySem.W.Frag) (mg : Str → Option Value) (base : Heap) (k : Nat) (f : Addr) (fd : FuncData) (ps : List Str) (sp : Sp) : Prop where
  len : ∀ vs H Q E, sp vs H Q E → vs.length = ps.length
  run : ∀ (A : Around) (outer : List PySem.Env) (s : Shared) (H : Hp) (args : Args) (us : List Value) (vs : List V) (Q : VK) (E : XK), Room k A → A.guards = some [] → Env0 P w K mg base A outer s H →
    BindsTo s fd args (ps.zip us) → Vals vs us → sp vs H Q E → codeAny (model P w) A (.call (.ref f) args) (CR (L2N.CX P w) outer P w H s Q E) s

/-- what the def f promises, if F tells what it does -/
def Stand (L : Pl) (H : Hp) : Prop := ∀ a, L.fa SCR = some a → ∃ o u, H a = some (.frz o u)
def spF (L : Pl) (many : Nat) (F : List D → Store → Res D) : Sp := fun vs H Q E => Stand L H ∧ ∃ m S ds, RS L.K L.fa m S H ∧ RpL L.K L.fa m H ds vs ∧ ds.length = many ∧ (match F ds S with
  | .ok d S' => ∀ v m' H', Gr m H m' H' → RS L.K L.fa m' S' H' → Rp L.K L.fa m' H' d v → Q v H'
  | .ex e S' => ∀ cls dd m' H', Gr m H m' H' → RS L.K L.fa m' S' H' → RX L m' H' e cls dd → E cls dd H'
  | .bad => False)

/-- the defs that may be called -/
def CalOk (X : Cx) (L : Pl) (Tb : Tabs) (F : Cl) (k : Nat) : Prop := ∀ (f : Nat) (r : Row), Tb.rows[f]? = some r → ∃ a fd, L.fa f = some a ∧ X.mg r.name = some (.ref a) ∧ PySem.W.keepIn X.K (.ref a) = true ∧ Binds X.K fd r.ps [] ∧
  FnG X.prog X.w X.K X.mg X.base k a fd r.ps (spF L r.ps.length (F f)) ∧ (∀ ds S, ds.length ≠ r.ps.length → F f ds S = .bad)
/-- what the module's names stand for -/
structure ModOk (X : Cx) (L : Pl) (Tb : Tabs) (G : Nat → Option D) : Prop where
  free : ∀ x ∈ Tb.free, X.mg x = none
  glb : ∀ (i : Nat) (x : Str) (d : D), Tb.glbs[i]? = some (x, d) → G i = some d ∧ ∃ v u, X.mg x = some u ∧ RelV v u ∧ ∀ m H, Rp L.K L.fa m H d v

theorem idxOf_lt_ne {zz : Int} : {is : List Int} → {j : Nat} → j < is.idxOf zz → is[j]? ≠ some zz
  | [], _, h => by simp at h
  | a :: l, 0, h => by
    intro e
    simp at e
    subst e
    simp at h
  | a :: l, j + 1, h => by
    rw [List.getElem?_cons_succ]
    refine idxOf_lt_ne ?_
    rw [List.idxOf_cons] at h
    cases hb : (a == zz) <;> simp only [hb, cond_true, cond_false] at h <;> omega
section
variable {X : Cx} {L : Pl} {N : List Str} {sc : Scope} {W : WX} {k : Nat} {Tb : Tabs} {G : Nat → Option D} {F : Cl}
theorem call_run {pins : List (Addr × Obj)} {σ : L2.St} {H : Hp} {s : Shared} {Q : VK} {us : List Value} {vs : List V} {f : Addr} {fd : FuncData} {ps : List Str} {sp : Sp} (tk : L2N.Takes X W) (C : FnG X.prog X.w X.K X.mg X.base k f fd ps sp) (hr : Room k X.A)
    (hg : X.A.guards = some []) (hb : Binds X.K fd ps []) (I : Inv X pins σ H s) (r : Vals vs us) (h : sp vs H Q (WE W σ)) :
    wpAny (model X.prog X.w) X.A (PySem.call (.ref f) us) (EP X pins σ Q) X.xe s := by
  have hl : us.length = ps.length := r.length.symm.trans (C.len _ _ _ _ h)
  have b : BindsTo s fd ⟨us, []⟩ (ps.zip us) := by
    have z := hb s us I.kIn (by simpa using hl)
    simpa using z
  refine wpAny_call (codeAny_mono (C.run X.A X.stack s H ⟨us, []⟩ us vs Q (WE W σ) hr hg I.env0 b r h) fun res s' hq => ?_)
  match res, hq with
  | .error e, hq => exact L2N.passAt tk σ pins H s e s' I hq
  | .ok (.ret u), hq => exact I.after hq
  | .ok .next, hq => exact hq.elim
  | .ok .brk, hq => exact hq.elim
  | .ok .cont, hq => exact hq.elim
/-- how a call's arguments stand -/
theorem plain_args {es : List Expr} {env : PySem.Env} {pos : Pos} (h : es.all notStar = true) : (backTo pos (starEach es env)).any (·.1) = false := by
  induction es with
  | nil => rfl
  | cons e es ih =>
    rw [List.all_cons, Bool.and_eq_true] at h
    rw [star_cons h.1]
    show (false || (backTo pos (starEach es env)).any (·.1)) = false
    rw [ih h.2]
    rfl
def tCa (sp : Sp) (W : WX) (t : TA) : TE := fun σ H Q => t σ H fun vs H1 => sp vs H1 Q (WE W σ)
theorem pe_ca {x : Str} {p pos : Pos} {e : Expr} {es : List Expr} {t : TA} {f : Addr} {fd : FuncData} {ps : List Str} {sp : Sp} (tk : L2N.Takes X W) (C : FnG X.prog X.w X.K X.mg X.base k f fd ps sp) (hr : Room k X.A)
    (hg : X.A.guards = some []) (hb : Binds X.K fd ps []) (hk : PySem.W.keepIn X.K (.ref f) = true) (hx : Gl X x) (hm : X.mg x = some (.ref f)) (ha : PA X (e :: es) t) (hd : (x == ("__debug__" : Str)) = false) (hs : (e :: es).all notStar = true) :
    PE X (.Call (.Name x p) (e :: es) [] pos) (tCa sp W t) := by
  rw [List.all_cons, Bool.and_eq_true] at hs
  refine ⟨fun pins s σ H Q I h => wpAny_Call_Name_kw (ld_glob I hx hm ?_ hd)⟩
  exact PySem.W.callWith_K (h₀ := X.base) I.ok.mod.kin hk (thn (ha.run pos pins s σ H _ I h) fun us s1 ⟨vs, H1, I1, r, q⟩ => ⟨I1.kIn, call_run tk C hr hg hb I1 r q⟩) (star_cons hs.1) (plain_args hs.2)
/-- of a def that a slot holds -/
def tCv (X : Cx) (k i : Nat) (W : WX) (t : TA) : TE := fun σ H Q => ∃ f fd ps sp, σ[i]? = some (some (.ref f)) ∧ FnG X.prog X.w X.K X.mg X.base k f fd ps sp ∧ Binds X.K fd ps [] ∧ PySem.W.keepIn X.K (.ref f) = true ∧ t σ H fun vs H1 => sp vs H1 Q (WE W σ)
theorem pe_cvv {i : Nat} {x : Str} {p pos : Pos} {e : Expr} {es : List Expr} {t : TA} (tk : L2N.Takes X W) (hr : Room k X.A) (hg : X.A.guards = some []) (hN : X.N[i]? = some x) (hv : Vis X.env.scope x) (ha : PA X (e :: es) t)
    (hd : (x == ("__debug__" : Str)) = false) (hcd : (x == ("__classdict__" : Str)) = false) (hs : (e :: es).all notStar = true) : PE X (.Call (.Name x p) (e :: es) [] pos) (tCv X k i W t) := by
  rw [List.all_cons, Bool.and_eq_true] at hs
  refine ⟨fun pins s σ H Q I h0 => ?_⟩
  obtain ⟨f, fd, ps, sp, hf, C, hb, hk, h⟩ := h0
  refine wpAny_Call_Name_kw (thn ((pe_var (pos := p) hN hv hd hcd).run pins s σ H (fun v H1 => v = .ref f ∧ H1 = H) I ⟨.ref f, hf, rfl, rfl⟩) fun u s1 ⟨v, H1, I1, r1, q1⟩ => ?_)
  obtain ⟨rfl, rfl⟩ := q1
  cases r1
  refine PySem.W.callWith_K (h₀ := X.base) I.ok.mod.kin hk (thn (ha.run pos pins s1 σ _ _ I1 h) fun us s2 ⟨vs, H2, I2, r, q⟩ => ⟨I2.kIn, ?_⟩) (star_cons hs.1) (plain_args hs.2)
  exact call_run tk C hr hg hb I2 r q

/-! ### trimming -/
mutual
theorem Rp.low {m : List Addr} {H : Hp} {n : Nat} : ∀ {d : D} {v : V}, Rp L.K L.fa m H d v → lowD n d = true → Rp L.K L.fa (m.take n) H d v
  | _, _, .c k, _ => .c k
  | _, _, .tup h z l, p => .tup h z (RpL.low l (by simpa [lowD] using p))
  | _, _, .lst h h2 z l, p => .lst h (fun hm => h2 (List.mem_of_mem_take hm)) z (RpL.low l (by simpa [lowD] using p))
  | _, _, .fz h z l, p => .fz h z (RpL.low l (by simpa [lowD] using p))
  | _, _, .ptup h hd z l, p => .ptup h hd z (RpL.low l (by simpa [lowD] using p))
  | _, _, .edc h n, _ => .edc h fun q => n (List.mem_of_mem_take q)
  | _, _, .ref h, p => .ref (by
    have hk := of_decide_eq_true (show decide _ = true from p)
    rw [List.getElem?_take_of_lt hk]
    exact h)
  | _, _, .fn h b, _ => .fn h b
  | _, _, .ty n, _ => .ty n
theorem RpL.low {m : List Addr} {H : Hp} {n : Nat} : ∀ {ds : List D} {vs : List V}, RpL L.K L.fa m H ds vs → lowDs n ds = true → RpL L.K L.fa (m.take n) H ds vs
  | _, _, .nil, _ => .nil
  | _, _, .cons h t, p => by
    rw [lowDs, Bool.and_eq_true] at p
    exact .cons (Rp.low h p.1) (RpL.low t p.2)
end
theorem RS.low {m : List Addr} {S : Store} {H : Hp} {n : Nat} (r : RS L.K L.fa m S H) (h : (S.take n).all (lowOb n) = true) : RS L.K L.fa (m.take n) (S.take n) H := by
  refine ⟨by rw [List.length_take, List.length_take, r.len], r.nd.sublist (List.take_sublist _ _), fun i ob e => ?_⟩
  have hi : i < n := by
    have := (List.getElem?_eq_some_iff.mp e).1
    rw [List.length_take] at this
    omega
  rw [List.getElem?_take_of_lt hi] at e
  obtain ⟨a, o, h1, h2, h3⟩ := r.at_ i ob e
  refine ⟨a, o, by rw [List.getElem?_take_of_lt hi]; exact h1, h2, ?_⟩
  have hl : lowOb n ob = true := by
    rw [List.all_eq_true] at h
    refine h ob ?_
    rw [List.mem_iff_getElem?]
    exact ⟨i, by rw [List.getElem?_take_of_lt hi]; exact e⟩
  cases ob with
  | lst ds => obtain ⟨vs, e, z, l⟩ := h3; exact ⟨vs, e, z, l.low hl⟩
  | dct kvs => obtain ⟨ws, e, z, hk, l⟩ := h3; exact ⟨ws, e, z, hk, l.low hl⟩
theorem Gr.take {m m' : List Addr} {H H' : Hp} (g : Gr m H m' H') : Gr m H m H' ∧ m'.take m.length = m :=
  ⟨⟨List.prefix_refl _, g.keep, fun _ h h' => absurd h h'⟩, by
    obtain ⟨t, rfl⟩ := g.pre
    exact List.take_left⟩
theorem unref_rp {m m' : List Addr} {H H' : Hp} {S' : Store} {d : D} {v : V} (g : Gr m H m' H') (rs : RS L.K L.fa m' S' H') (ra : Rp L.K L.fa m' H' d v) (h : lowD m.length (unref m.length S' d) = true) : Rp L.K L.fa m H' (unref m.length S' d) v := by
  obtain ⟨_, e2⟩ := g.take
  have key : ∀ d', lowD m.length d' = true → Rp L.K L.fa m' H' d' v → Rp L.K L.fa m H' d' v := fun d' hd hr => by
    have z := Rp.low (n := m.length) hr hd
    rw [e2] at z
    exact z
  cases d with
  | ref j =>
    unfold unref at h ⊢
    by_cases hj : m.length ≤ j
    · simp only [if_pos hj] at h ⊢
      unfold see at h ⊢
      simp only at h ⊢
      split at h
      · rename_i xs hx
        obtain ⟨a, o, h1, h2, h3⟩ := rs.at_ _ _ hx
        obtain ⟨vs, rfl, z, l⟩ := h3
        cases ra with
        | ref h4 =>
          rw [h4] at h1
          cases h1
          have hl := RpL.low (n := m.length) l (by simpa [lowD] using h)
          rw [e2] at hl
          refine .lst h2 (fun hm => ?_) z hl
          obtain ⟨i, hi, ei⟩ := List.mem_iff_getElem.mp hm
          have e3 : m'[i]? = some _ := pre_get g.pre (List.getElem?_eq_getElem hi)
          rw [ei] at e3
          have e4 := nodup_at rs.nd e3 h4
          omega
      · exact key _ h ra
    · simp only [if_neg hj] at h ⊢
      exact key _ h ra
  | _ => exact key _ h ra
/-- what a call's end leaves, trimmed -/
theorem Pst.trim {τ : L2.St} {m : List Addr} {H : Hp} {S : Store} {Q : VK} {r : Res D} (rs : RS L.K L.fa m S H) (p : Pst L (Rp L.K L.fa) W τ m H Q (trim S.length r)) : Pst L (Rp L.K L.fa) W τ m H Q r := by
  cases r with
  | ok d S' =>
    intro v m' H' g1 rs1 ra
    have p : Pst L (Rp L.K L.fa) W τ m H Q (fin S.length d S') := p
    unfold fin at p
    split at p
    · rename_i hk
      rw [Bool.and_eq_true] at hk
      obtain ⟨g2, e2⟩ := g1.take
      have rs2 := rs1.low (n := S.length) hk.2
      rw [← rs.len] at hk p
      rw [← rs.len, e2] at rs2
      exact p v m H' g2 rs2 (unref_rp g1 rs1 ra hk.1)
    · exact False.elim p
  | ex e S' =>
    intro c dd m' H' g1 rs1 rx
    have p : Pst L (Rp L.K L.fa) W τ m H Q (finX S.length e S') := p
    unfold finX at p
    split at p
    · rename_i hk
      rw [Bool.and_eq_true] at hk
      obtain ⟨g2, e2⟩ := g1.take
      have rs2 := rs1.low (n := S.length) hk.2
      rw [← rs.len] at hk p
      rw [← rs.len, e2] at rs2
      refine p c dd m H' g2 rs2 ?_
      obtain ⟨c1, c3⟩ := rx
      refine ⟨c1, ?_⟩
      rcases c3 with c3 | ⟨d, fs, d1, d2, d3, d4⟩
      · exact .inl c3
      · have z := RpL.low (n := m.length) d4 hk.1
        rw [e2] at z
        exact .inr ⟨d, fs, d1, d2, d3, z⟩
    · exact False.elim p
  | bad => exact p

/-! ### the constructs -/
section
variable (g : Good X L N sc W)
include g
omit g in
theorem a_nil : PA X [] (RdA L W (evs G F .nil)) := PA.weak pa_nil fun τ H Q ⟨σ, S, m, rs, re, p⟩ => by
  simp only [evs] at p
  exact p _ m H (.refl _ _) rs .nil
omit g in
theorem a_cons {a : Tm} {r : Tms} {e : Expr} {es : List Expr} (hs : notStar e = true) (ha : PE X e (RdE L W (ev G F a))) (hr : PA X es (RdA L W (evs G F r))) : PA X (e :: es) (RdA L W (evs G F (.cons a r))) := by
  refine PA.weak (pa_cons ha hr (star_cons hs)) fun τ H Q ⟨σ, S, m, rs, re, p⟩ => ?_
  simp only [evs] at p
  refine ⟨σ, S, m, rs, re, (Pst.bind p).imp fun x H1 ⟨da, S1, m1, g1, rs1, ra, p1⟩ => ?_⟩
  refine ⟨σ, S1, m1, rs1, re.mono g1 rs, (Pst.bind p1).imp fun ys H2 ⟨ds, S2, m2, g2, rs2, rl, p2⟩ => ?_⟩
  exact p2 _ m2 H2 (.refl _ _) rs2 (.cons (ra.mono g2 rs1) rl)
theorem rowB_ok {f : Nat} {x : Str} (h : rowB Tb sc f x = true) : Gl X x ∧ (x == ("__debug__" : Str)) = false ∧ ∃ r, Tb.rows[f]? = some r ∧ r.name = x := by
  obtain ⟨h1, h⟩ := bA h
  obtain ⟨h2, h3⟩ := bA h
  refine ⟨glB_ok (by rw [g.hsc]; exact h1), (okN_ok h2).1, ?_⟩
  split at h3
  · rename_i r hr
    exact ⟨r, hr, of_decide_eq_true h3⟩
  · cases h3
omit g in
/-- what F does, as the promise wants it -/
theorem pst_sp {σ : Env} {τ : L2.St} {m : List Addr} {H : Hp} {S : Store} {Q : VK} {ds : List D} {vs : List V} {many : Nat} {Fn : List D → Store → Res D} (re : RE L.K L.fa m H σ τ) (rs : RS L.K L.fa m S H) (rl : RpL L.K L.fa m H ds vs) (hb : ds.length ≠ many → Fn ds S = .bad) (p : Pst L (Rp L.K L.fa) W τ m H Q (Fn ds S)) :
    spF L many Fn vs H Q (WE W τ) := by
  have hl : ds.length = many := Classical.byContradiction fun hn => by
    rw [hb hn] at p
    exact p
  refine ⟨re.scr, m, S, ds, rs, rl, hl, ?_⟩
  cases e : Fn ds S with
  | ok d S' => rw [e] at p; exact p
  | ex x S' => rw [e] at p; exact p
  | bad => rw [e] at p; exact p
theorem e_call {f : Nat} {as : Tms} {x : Str} {q pos : Pos} {e : Expr} {es : List Expr} (hr : Room k X.A) (C : CalOk X L Tb F k) (h : rowB Tb sc f x = true) (hs : (e :: es).all notStar = true) (ha : PA X (e :: es) (RdA L W (evs G F as))) :
    PE X (.Call (.Name x q) (e :: es) [] pos) (RdE L W (ev G F (.call f as))) := by
  obtain ⟨h1, h2, r, h3, rfl⟩ := rowB_ok g h
  obtain ⟨a, fd, c1, c2, c3, c4, c5, c6⟩ := C f r h3
  refine PE.weak (pe_ca g.tk c5 hr g.gd c4 c3 h1 c2 ha h2 hs) fun τ H Q ⟨σ, S, m, rs, re, p⟩ => ?_
  simp only [ev] at p
  refine ⟨σ, S, m, rs, re, (Pst.bind p).imp fun vs H1 ⟨ds, S1, m1, g1, rs1, rl, p1⟩ => ?_⟩
  exact pst_sp (re.mono g1 rs) rs1 rl (fun hn => c6 ds S1 hn) (p1.trim rs1)
theorem e_callk {f : Nat} {as : Tms} {x : Str} {q pos : Pos} {e : Expr} {es : List Expr} (hr : Room k X.A) (C : CalOk X L Tb F k) (h : rowB Tb sc f x = true) (hs : (e :: es).all notStar = true) (ha : PA X (e :: es) (RdA L W (evs G F as))) :
    PE X (.Call (.Name x q) (e :: es) [] pos) (RdE L W (ev G F (.callk f as))) := by
  obtain ⟨h1, h2, r, h3, rfl⟩ := rowB_ok g h
  obtain ⟨a, fd, c1, c2, c3, c4, c5, c6⟩ := C f r h3
  refine PE.weak (pe_ca g.tk c5 hr g.gd c4 c3 h1 c2 ha h2 hs) fun τ H Q ⟨σ, S, m, rs, re, p⟩ => ?_
  simp only [ev] at p
  refine ⟨σ, S, m, rs, re, (Pst.bind p).imp fun vs H1 ⟨ds, S1, m1, g1, rs1, rl, p1⟩ => ?_⟩
  exact pst_sp (re.mono g1 rs) rs1 rl (fun hn => c6 ds S1 hn) p1
theorem slotB_ok {i : Nat} {x : Str} (h : slotB N sc i x = true) : X.N[i]? = some x ∧ Vis X.env.scope x ∧ (x == ("__debug__" : Str)) = false ∧ (x == ("__classdict__" : Str)) = false := by
  obtain ⟨h1, h⟩ := bA h
  obtain ⟨h2, h3⟩ := bA h
  obtain ⟨d1, d2, d3⟩ := okN_ok h3
  exact ⟨by rw [g.hN]; exact of_decide_eq_true h1, by rw [g.hsc]; exact visB_ok h2, d1, d2⟩
theorem e_callv {i : Nat} {as : Tms} {x : Str} {q pos : Pos} {e : Expr} {es : List Expr} (hr : Room k X.A) (C : CalOk X L Tb F k) (Cf : ∀ f a, L.fa f = some a → f < SCR → ∃ r, Tb.rows[f]? = some r) (h : slotB N sc i x = true) (hs : (e :: es).all notStar = true) (ha : PA X (e :: es) (RdA L W (evs G F as))) :
    PE X (.Call (.Name x q) (e :: es) [] pos) (RdE L W (ev G F (.callv i as))) := by
  obtain ⟨h1, h2, h3, h4⟩ := slotB_ok g h
  refine PE.weak (pe_cvv g.tk hr g.gd h1 h2 ha h3 h4 hs) fun τ H Q ⟨σ, S, m, rs, re, p⟩ => ?_
  simp only [ev] at p
  split at p
  · rename_i f hf
    obtain ⟨v, e1, e2⟩ := re.at_ i _ hf
    cases e2 with
    | fn ea eb =>
      obtain ⟨r, hr'⟩ := Cf f _ ea eb
      obtain ⟨a', fd, c1, c2, c3, c4, c5, c6⟩ := C f r hr'
      rw [ea] at c1
      cases c1
      refine ⟨_, fd, r.ps, _, e1, c5, c4, c3, ⟨σ, S, m, rs, re, (Pst.bind p).imp fun vs H1 ⟨ds, S1, m1, g1, rs1, rl, p1⟩ => ?_⟩⟩
      exact pst_sp (re.mono g1 rs) rs1 rl (fun hn => c6 ds S1 hn) (p1.trim rs1)
  · exact p.elim
theorem freeB_ok (M : ModOk X L Tb G) {x : Str} (h : freeB Tb sc x = true) : Gl X x ∧ X.mg x = none ∧ x ≠ "__name__" ∧ (x == ("__debug__" : Str)) = false := by
  obtain ⟨h1, h⟩ := bA h
  obtain ⟨h2, h3⟩ := bA h
  obtain ⟨d1, d2, d3⟩ := okN_ok h3
  exact ⟨glB_ok (by rw [g.hsc]; exact h1), M.free x (of_decide_eq_true h2), d3, d1⟩
/-- a built-in, called -/
theorem w_blt {b : Blt} {as : Tms} {τ : L2.St} {H : Hp} {Q : VK} : RdE L W (ev G F (.blt b as)) τ H Q → tCB (Rcal X.K L.fa (bltD b)) (RdA L W (evs G F as)) τ H Q := fun ⟨σ, S, m, rs, re, p⟩ => by
  simp only [ev] at p
  refine ⟨σ, S, m, rs, re, (Pst.bind p).imp fun vs H1 ⟨ds, S1, m1, g1, rs1, rl, p1⟩ => ?_⟩
  obtain ⟨d, e, q⟩ := p1.liftD
  rw [← g.hL] at rs1 rl q
  exact ⟨m1, S1, ds, d, rs1, rl, e, q⟩
theorem e_blt {b : Blt} {as : Tms} {x : Str} {q pos : Pos} {e : Expr} {es : List Expr} (M : ModOk X L Tb G) (h0 : bltName b = x) (h : freeB Tb sc x = true) (hs : (e :: es).all notStar = true) (ha : PA X (e :: es) (RdA L W (evs G F as))) :
    PE X (.Call (.Name x q) (e :: es) [] pos) (RdE L W (ev G F (.blt b as))) := by
  obtain ⟨h1, h2, h3, h4⟩ := freeB_ok g M h
  rw [List.all_cons, Bool.and_eq_true] at hs
  have hu := g.un
  have st := star_cons (es := es) (env := X.env) hs.1
  have pl := plain_args (env := X.env) (pos := pos) hs.2
  subst h0
  cases b with
  | len => exact PE.weak (pe_callB call_lenD h1 h2 (by decide +kernel) ha h3 h4 st pl) fun τ H Q => w_blt g
  | all => exact PE.weak (pe_callB (call_allD g.calm) h1 h2 (by decide +kernel) ha h3 h4 st pl) fun τ H Q => w_blt g
  | any => exact PE.weak (pe_callB (call_anyD g.calm) h1 h2 (by decide +kernel) ha h3 h4 st pl) fun τ H Q => w_blt g
  | sum => exact PE.weak (pe_callB (call_sumD g.calm) h1 h2 (by decide +kernel) ha h3 h4 st pl) fun τ H Q => w_blt g
  | abs => exact PE.weak (pe_callB call_absD h1 h2 (by decide +kernel) ha h3 h4 st pl) fun τ H Q => w_blt g
  | int => exact PE.weak (pe_callTy call_intD h1 h2 (by decide +kernel) ha h3 h4 st pl) fun τ H Q => w_blt g
  | tuple => exact PE.weak (pe_callTy call_tupD h1 h2 (by decide +kernel) ha h3 h4 st pl) fun τ H Q => w_blt g
  | list => exact PE.weak (pe_callTy call_lstD h1 h2 (by decide +kernel) ha h3 h4 st pl) fun τ H Q => w_blt g
  | sorted => exact PE.weak (pe_callB call_srtD h1 h2 (by decide +kernel) ha h3 h4 st pl) fun τ H Q => w_blt g
  | min => exact PE.weak (pe_callB (call_minD g.calm) h1 h2 (by decide +kernel) ha h3 h4 st pl) fun τ H Q => w_blt g
  | max => exact PE.weak (pe_callB (call_maxD g.calm) h1 h2 (by decide +kernel) ha h3 h4 st pl) fun τ H Q => w_blt g
  | repr => exact PE.weak (pe_callB (repr_ok g.gd (by omega)) h1 h2 (by decide +kernel) ha h3 h4 st pl) fun τ H Q => w_blt g
  | str => exact PE.weak (pe_callTy call_strD h1 h2 (by decide +kernel) ha h3 h4 st pl) fun τ H Q => w_blt g
theorem e_skey {o : Tm} {q pos : Pos} {e : Expr} (M : ModOk X L Tb G) (h : freeB Tb sc "sorted" = true) (hs : notStar e = true) (ho : PE X e (RdE L W (ev G F o))) : PE X (.Call (.Name "sorted" q) [e] [] pos) (RdE L W (ev G F (.skey o))) := by
  obtain ⟨h1, h2, h3, h4⟩ := freeB_ok g M h
  have st := star_cons (es := []) (env := X.env) hs
  refine PE.weak (pe_callB (skey_ok (fa := L.fa) g.calm) h1 h2 (by decide +kernel) (pa_cons ho pa_nil st) h3 h4 st rfl) fun τ H Q ⟨σ, S, m, rs, re, p⟩ => ?_
  simp only [ev] at p
  refine ⟨σ, S, m, rs, re, (Pst.bind p).imp fun v H1 ⟨d, S1, m1, g1, rs1, ra, p1⟩ => ?_⟩
  obtain ⟨d', e', q⟩ := p1.liftD
  rw [← g.hL] at rs1 ra q
  exact ⟨m1, S1, d, d', v, rfl, rs1, ra, e', q⟩
theorem e_isi {a : Tm} {n : String} {y : Str} {q q2 pos : Pos} {e : Expr} (M : ModOk X L Tb G) (h : freeB Tb sc "isinstance" = true) (hs : notStar e = true) (hy : y = Str.ofString n) (hf : freeB Tb sc y = true) (hn : isTyName n = true) (ha : PE X e (RdE L W (ev G F a))) :
    PE X (.Call (.Name "isinstance" q) [e, .Name y q2] [] pos) (RdE L W (ev G F (.isi a n))) := by
  obtain ⟨h1, h2, h3, h4⟩ := freeB_ok g M h
  obtain ⟨f1, f2, f3, f4⟩ := freeB_ok g M hf
  have st := star_cons (es := [.Name y q2]) (env := X.env) hs
  have bt : bootBuiltins y = some (.type n) := by
    unfold isTyName at hn
    simp only [Bool.or_eq_true, beq_iff_eq] at hn
    subst hy
    rcases hn with ((((rfl | rfl) | rfl) | rfl) | rfl) | rfl <;> decide +kernel
  have pn : PE X (.Name y q2) (tC (.ty n)) := pe_bltn f1 f2 bt rfl f3 f4
  refine PE.weak (pe_callB (isi_ok (fa := L.fa) (n := n)) h1 h2 (by decide +kernel) (pa_cons ha (pa_cons pn pa_nil (by rfl)) st) h3 h4 st rfl) fun τ H Q ⟨σ, S, m, rs, re, p⟩ => ?_
  simp only [ev] at p
  refine ⟨σ, S, m, rs, re, (Pst.bind p).imp fun v H1 ⟨d, S1, m1, g1, rs1, ra, p1⟩ => ?_⟩
  obtain ⟨d', e', q⟩ := p1.liftD
  obtain ⟨b, e3, rfl⟩ := Option.map_eq_some_iff.mp e'
  rw [← g.hL] at rs1 ra
  exact ⟨m1, S1, d, b, v, rfl, rs1, ra, e3, q _ H1 (.refl _ _) (by rw [← g.hL]; exact rs1) (.c _)⟩
/-! ### methods, places -/
omit g in
theorem base_ok {e : Expr} {n : Str} {env : PySem.Env} (h : plainB e = true) : attributeBase e n env (eval e env) = eval e env := by
  cases e <;> first | rfl | (exact absurd (show false = true from h) Bool.false_ne_true)
omit g in
theorem few_one {e : Expr} {cp : Pos} {env : PySem.Env} (h : notStar e = true) : ((backTo cp (starEach [e] env)).all (fun x => !x.1) && (backToKw cp (keywordEach [] env)).all (fun x => x.1.isSome)
      && decide (([e] : List Expr).length + ([] : List Keyword).length + (if ([] : List Keyword).isEmpty then 0 else 1) < 30)) = true := by
  rw [star_cons (es := []) h]
  rfl
theorem lst_ty {a : D} {v : V} {m : List Addr} {S : Store} {H : Hp} {n : Nat} {xs : List D} (rs : RS L.K L.fa m S H) (r : Rp L.K L.fa m H a v) (e : lstAt S a = some (n, xs)) : tyV X.K "list" v H := by
  obtain ⟨b, vs, rfl, h1, h2, h3, h4⟩ := lstAt_v (X := X) (fa := L.fa) (by rw [g.hL]; exact rs) (by rw [g.hL]; exact r) e
  exact Or.inl ⟨rfl, _, SqL.of h2⟩
/-- a method's call: what it asks of the object, what it does -/
theorem w_mth {mt : Mth} {o : Tm} {as : Tms} {T : String} (hf : ∀ d ds S e S', mthD mt d ds S ≠ .ex e S') (hty : ∀ {m : List Addr} {S : Store} {H : Hp} {d : D} {v : V}, RS L.K L.fa m S H → Rp L.K L.fa m H d v → mthOk mt d S = true → tyV X.K T v H) {τ : L2.St} {H : Hp} {Q : VK} :
    RdE L W (ev G F (.mth mt o as)) τ H Q → tBM X.K T (Rmt X.K L.fa (mthD mt)) (RdE L W (ev G F o)) (RdA L W (evs G F as)) τ H Q := fun ⟨σ, S, m, rs, re, p⟩ => by
  simp only [ev] at p
  refine ⟨σ, S, m, rs, re, (Pst.bind p).imp fun v H1 ⟨d, S1, m1, g1, rs1, ra, p1⟩ => ?_⟩
  split at p1
  · rename_i hk
    refine ⟨hty rs1 ra hk, σ, S1, m1, rs1, re.mono g1 rs, (Pst.bind p1).imp fun vs H2 ⟨ds, S2, m2, g2, rs2, rl, p2⟩ => ?_⟩
    have ra2 := ra.mono g2 rs1
    cases e : mthD mt d ds S2 with
    | ok d' S' =>
      rw [e] at p2
      rw [← g.hL] at rs2 ra2 rl
      exact ⟨m2, S2, d, ds, d', S', rs2, ra2, rl, e, fun v H' g3 rs3 r3 => p2 v m2 H' g3 (by rw [← g.hL]; exact rs3) (by rw [← g.hL]; exact r3)⟩
    | ex x S' => exact absurd e (hf _ _ _ _ _)
    | bad => rw [e] at p2; exact False.elim p2
  · exact p1.elim
theorem lst_is {m : List Addr} {S : Store} {H : Hp} {d : D} {v : V} (rs : RS L.K L.fa m S H) (r : Rp L.K L.fa m H d v) (h : (lstAt S d).isSome = true) : tyV X.K "list" v H := by
  obtain ⟨⟨n, xs⟩, hx⟩ := Option.isSome_iff_exists.mp h
  exact lst_ty g rs r hx
theorem e_mth {mt : Mth} {o : Tm} {as : Tms} {x : Str} {ap cp : Pos} {e e1 : Expr} {es : List Expr} (h0 : mthName mt = x) (hb : plainB e = true) (hl : (ap.endLine == cp.line) = true) (hs : (e1 :: es).all notStar = true) (hn : es.length + 1 = mthN mt) (ho : PE X e (RdE L W (ev G F o))) (ha : PA X (e1 :: es) (RdA L W (evs G F as))) :
    PE X (.Call (.Attribute e x ap) (e1 :: es) [] cp) (RdE L W (ev G F (.mth mt o as))) := by
  subst h0
  rw [List.all_cons, Bool.and_eq_true] at hs
  have st := star_cons (es := es) (env := X.env) hs.1
  have pl := plain_args (env := X.env) (pos := cp) hs.2
  have few : ((backTo cp (starEach (e1 :: es) X.env)).all (fun x => !x.1) && (backToKw cp (keywordEach [] X.env)).all (fun x => x.1.isSome)
      && decide ((e1 :: es).length + ([] : List Keyword).length + (if ([] : List Keyword).isEmpty then 0 else 1) < 30)) = true := by
    have len : es.length + 1 ≤ 2 := by rw [hn]; cases mt <;> decide
    match es, len, hs.2 with
    | [], _, _ => exact few_one hs.1
    | [e2], _, h2 =>
      rw [List.all_cons, Bool.and_eq_true] at h2
      rw [star_cons hs.1, star_cons (es := []) h2.1]
      rfl
    | _ :: _ :: _, len, _ => simp at len
  cases mt with
  | append =>
    refine PE.weak (pe_bm PySem.F.plainAttrs_list PySem.F.slot_list_append PySem.F.type_list_append (app_mt (X := X) (fa := L.fa)) ho ha (base_ok hb) few hl st pl) fun τ H Q => w_mth g (mt := .append) (fun d ds S e S' z => ?_) (fun rs r h => lst_is g rs r h)
    have z : appD d ds S = .ex e S' := z
    unfold appD at z
    split at z
    · split at z <;> cases z
    · cases z
  | extend =>
    refine PE.weak (pe_bm PySem.F.plainAttrs_list PySem.F.slot_list_extend PySem.F.type_list_extend (ext_mt (X := X) (fa := L.fa)) ho ha (base_ok hb) few hl st pl) fun τ H Q => w_mth g (mt := .extend) (fun d ds S e S' z => ?_) (fun rs r h => lst_is g rs r h)
    have z : extD d ds S = .ex e S' := z
    unfold extD at z
    split at z
    · split at z
      · split at z <;> cases z
      · cases z
    · cases z
  | insert =>
    refine PE.weak (pe_bm PySem.F.plainAttrs_list PySem.F.slot_list_insert PySem.F.type_list_insert (ins_mt (X := X) (fa := L.fa)) ho ha (base_ok hb) few hl st pl) fun τ H Q => w_mth g (mt := .insert) (fun d ds S e S' z => ?_) (fun rs r h => lst_is g rs r h)
    have z : insM d ds S = .ex e S' := z
    unfold insM at z
    split at z
    · split at z <;> cases z
    · cases z
/-- o.pop() -/
theorem e_pop {o : Tm} {ap cp : Pos} {e : Expr} (hb : plainB e = true) (hl : (ap.endLine == cp.line) = true) (ho : PE X e (RdE L W (ev G F o))) : PE X (.Call (.Attribute e "pop" ap) [] [] cp) (RdE L W (ev G F (.pop o))) := by
  refine PE.weak (pe_bm0 PySem.F.plainAttrs_list PySem.F.slot_list_pop PySem.F.type_list_pop (pop_mt (X := X) (fa := L.fa)) ho (base_ok hb) hl) fun τ H Q ⟨σ, S, m, rs, re, p⟩ => ?_
  simp only [ev] at p
  refine ⟨σ, S, m, rs, re, (Pst.bind p).imp fun v H1 ⟨d, S1, m1, g1, rs1, ra, p1⟩ => ?_⟩
  cases e : popD d S1 with
  | ok d' S' =>
    rw [e] at p1
    have hx : (lstAt S1 d).isSome = true := by
      unfold popD at e
      split at e
      · rename_i hx; rw [hx]; rfl
      · cases e
    refine ⟨lst_is g rs1 ra hx, ?_⟩
    rw [← g.hL] at rs1 ra
    exact ⟨m1, S1, d, d', S', rs1, ra, rfl, e, fun v H' g3 rs3 r3 => p1 v m1 H' g3 (by rw [← g.hL]; exact rs3) (by rw [← g.hL]; exact r3)⟩
  | ex x S' =>
    unfold popD at e
    split at e
    · split at e <;> cases e
    · cases e
  | bad => rw [e] at p1; exact False.elim p1
theorem e_dget {o kk z : Tm} {ap cp : Pos} {e e1 e2 : Expr} (hb : plainB e = true) (hl : (ap.endLine == cp.line) = true) (hs : notStar e1 = true) (hs2 : notStar e2 = true) (ho : PE X e (RdE L W (ev G F o))) (hk : PE X e1 (RdE L W (ev G F kk))) (hz : PE X e2 (RdE L W (ev G F z))) :
    PE X (.Call (.Attribute e "get" ap) [e1, e2] [] cp) (RdE L W (ev G F (.dget o kk z))) := by
  have hu := g.un
  have st : starEach [e1, e2] X.env = [(false, eval e1 X.env), (false, eval e2 X.env)] := by
    rw [star_cons hs, star_cons hs2]
    rfl
  have m2 : M2 X e "get" ap e1 e2 cp := ⟨base_ok hb, by rw [st]; rfl, hl, by rw [st]; rfl⟩
  refine PE.weak (pe_dget2 (by omega) ho hk hz m2) fun τ H Q ⟨σ, S, m, rs, re, p⟩ => ?_
  simp only [ev] at p
  refine ⟨σ, S, m, rs, re, (Pst.bind p).imp fun v H1 ⟨d, S1, m1, g1, rs1, ra, p1⟩ => ?_⟩
  split at p1
  · rename_i hk
    obtain ⟨⟨n, kvs⟩, hx⟩ := Option.isSome_iff_exists.mp hk
    obtain ⟨b, ws, rfl, h1, h2, _⟩ := dctAt_v (X := X) (fa := L.fa) (by rw [g.hL]; exact rs1) (by rw [g.hL]; exact ra) hx
    refine ⟨b, rfl, .inl ⟨ws, .inl h2⟩, σ, S1, m1, rs1, re.mono g1 rs, (Pst.bind p1).imp fun y H2 ⟨dk, S2, m2, g2, rs2, rk, p2⟩ => ?_⟩
    refine ⟨σ, S2, m2, rs2, (re.mono g1 rs).mono g2 rs1, (Pst.bind p2).imp fun z H3 ⟨dz, S3, m3, g3, rs3, rz, p3⟩ => ?_⟩
    obtain ⟨d', e', q⟩ := p3.liftD
    have ra3 := (ra.mono g2 rs1).mono g3 rs2
    have rk3 := rk.mono g3 rs2
    obtain ⟨b', o, eb, gg, rr⟩ := getD2_v (X := X) (fa := L.fa) (by rw [g.hL]; exact rs3) (by rw [g.hL]; exact ra3) (by rw [g.hL]; exact rk3) (by rw [g.hL]; exact rz) e'
    cases eb
    exact ⟨o, gg, q _ H3 (.refl _ _) rs3 (by rw [← g.hL]; exact rr)⟩
  · exact p1.elim
omit g in
theorem plainI_ok {b : Expr} (h : plainI b = true) : PlainIx b := by
  intro o i
  cases b <;> first | rfl | (exact absurd (show false = true from h) Bool.false_ne_true)
theorem e_idx {a i : Tm} {e b : Expr} {pos : Pos} (h : plainI b = true) (ha : PE X e (RdE L W (ev G F a))) (hi : PE X b (RdE L W (ev G F i))) : PE X (.Subscript e b pos) (RdE L W (ev G F (.idx a i))) := by
  have hu := g.un
  refine PE.weak (pe_ix (idx_ok (fa := L.fa) (by omega)) ha hi (plainI_ok h)) fun τ H Q ⟨σ, S, m, rs, re, p⟩ => ?_
  simp only [ev] at p
  refine ⟨σ, S, m, rs, re, (Pst.bind p).imp fun x H1 ⟨da, S1, m1, g1, rs1, ra, p1⟩ => ?_⟩
  refine ⟨σ, S1, m1, rs1, re.mono g1 rs, (Pst.bind p1).imp fun y H2 ⟨db, S2, m2, g2, rs2, rb, p2⟩ => ?_⟩
  obtain ⟨d, e', q⟩ := p2.liftD
  have ra2 := ra.mono g2 rs1
  have rs2' := rs2
  rw [← g.hL] at rs2 ra2 rb
  exact ⟨m2, S2, da, db, d, rs2, ra2, rb, e', fun v hv => q v H2 (.refl _ _) rs2' (by rw [← g.hL]; exact hv)⟩
/-- a slice's bound -/
def RdO (L : Pl) (W : WX) (f : Env → Store → Res (List D)) : TO := fun τ H Q => ∃ σ S m, RS L.K L.fa m S H ∧ RE L.K L.fa m H σ τ ∧ Pst L (fun _ _ (a : List D) (b : Option Int) => bnds a = some b) W τ m H Q ((f σ S).bind fun ds S => if (bnds ds).isSome then .ok ds S else .bad)
omit g in
theorem o_none : PO X none (RdO L W (evs G F .nil)) := ⟨fun pins s σ H Q I ⟨σ', S, m, rs, re, p⟩ => po_none.run pins s σ H Q I (by
  simp only [evs, bind_ok] at p
  exact p none m H (.refl _ _) rs rfl)⟩
omit g in
theorem o_some {a : Tm} {e : Expr} (ha : PE X e (RdE L W (ev G F a))) : PO X (some e) (RdO L W (evs G F (.cons a .nil))) := ⟨fun pins s σ H Q I ⟨σ', S, m, rs, re, p⟩ => (po_some ha).run pins s σ H Q I (by
  simp only [evs] at p
  refine ⟨σ', S, m, rs, re, ?_⟩
  cases ea : ev G F a σ' S with
  | ok d S' =>
    rw [ea] at p
    simp only [bind_ok] at p
    split at p
    · rename_i hk
      intro v m' H' g1 rs1 ra
      cases d with
      | c k =>
        cases k with
        | int i =>
          cases ra
          exact ⟨i, rfl, p (some i) m' H' g1 rs1 rfl⟩
        | _ => simp [bnds] at hk
      | _ => simp [bnds] at hk
    · exact False.elim p
  | ex x S' =>
    rw [ea] at p
    exact p
  | bad =>
    rw [ea] at p
    exact p)⟩
theorem e_slc {a : Tm} {lo hi : Tms} {e : Expr} {l h : Option Expr} {p2 pos : Pos} (ha : PE X e (RdE L W (ev G F a))) (hl : PO X l (RdO L W (evs G F lo))) (hh : PO X h (RdO L W (evs G F hi))) : PE X (.Subscript e (.Slice l h none p2) pos) (RdE L W (ev G F (.slc a lo hi))) := by
  refine PE.weak (pe_slice (slc_ok (fa := L.fa)) ha hl hh) fun τ H Q ⟨σ, S, m, rs, re, p⟩ => ?_
  simp only [ev] at p
  refine ⟨σ, S, m, rs, re, (Pst.bind p).imp fun x H1 ⟨da, S1, m1, g1, rs1, ra, p1⟩ => ?_⟩
  refine ⟨σ, S1, m1, rs1, re.mono g1 rs, ?_⟩
  cases e1 : evs G F lo σ S1 with
  | ok d1 S2 =>
    rw [e1, bind_ok] at p1
    rw [bind_ok]
    by_cases hb1 : (bnds d1).isSome = true
    · rw [if_pos hb1]
      rw [if_pos hb1] at p1
      intro bl m2 H2 g2 rs2 r2
      refine ⟨σ, S2, m2, rs2, (re.mono g1 rs).mono g2 rs1, ?_⟩
      have p1 := p1.step g2
      cases e2 : evs G F hi σ S2 with
      | ok d2 S3 =>
        rw [e2, bind_ok] at p1
        rw [bind_ok]
        obtain ⟨d, e', q⟩ := p1.lift
        unfold slcP at e'
        split at e'
        · rename_i b1 b2 hb1' hb2
          rw [if_pos (by rw [hb2]; rfl)]
          intro bh m3 H3 g3 rs3 r3
          rw [r2] at hb1'
          rw [r3] at hb2
          cases hb1'
          cases hb2
          have ra3 := (ra.mono g2 rs1).mono g3 rs2
          have rs3' := rs3
          rw [← g.hL] at rs3 ra3
          exact ⟨m3, S3, da, d, rs3, ra3, e', fun v H' g4 rs4 r4 => q v m3 H' (g3.trans g4) (by rw [← g.hL]; exact rs4) (by rw [← g.hL]; exact r4)⟩
        · cases e'
      | ex x S' =>
        rw [e2] at p1
        exact p1
      | bad =>
        rw [e2] at p1
        exact False.elim p1
    · rw [if_neg hb1] at p1
      exact False.elim p1
  | ex x S' =>
    rw [e1] at p1
    exact p1
  | bad =>
    rw [e1] at p1
    exact False.elim p1
/-! ### displays -/
omit g in
theorem evs_len : ∀ {as : Tms} {es : List Expr} {σ : Env} {S S' : Store} {ds : List D}, chks Tb N sc as es = true → evs G F as σ S = .ok ds S' → ds.length = es.length
  | .nil, [], _, _, _, _, _, h => by simp only [evs] at h; cases h; rfl
  | .nil, _ :: _, _, _, _, _, h, _ => by simp [chks] at h
  | .cons _ _, [], _, _, _, _, h, _ => by simp [chks] at h
  | .cons a r, e :: es, σ, S, S', ds, h, h2 => by
    simp only [chks, Bool.and_eq_true] at h
    simp only [evs] at h2
    cases e1 : ev G F a σ S with
    | ok d S1 =>
      rw [e1, bind_ok] at h2
      cases e2 : evs G F r σ S1 with
      | ok ds2 S2 =>
        rw [e2, bind_ok] at h2
        cases h2
        rw [List.length_cons, List.length_cons, evs_len h.2.2 e2]
      | ex x S2 => rw [e2] at h2; cases h2
      | bad => rw [e2] at h2; cases h2
    | ex x S2 => rw [e1] at h2; cases h2
    | bad => rw [e1] at h2; cases h2
omit g in
theorem small_len {α : Type} {vs : List α} {n : Nat} (h : vs.length = n) (hn : n ≤ 1000) : vs.length ≤ sizeLine := by
  rw [h]
  exact Nat.le_of_lt (small1000 hn)
theorem e_tup {as : Tms} {es : List Expr} {j : Nat} {pos : Pos} (hk : chks Tb N sc as es = true) (hn : es.length ≤ 1000) (ha : PA X es (RdA L W (evs G F as))) : PE X (.Tuple es j pos) (RdE L W (ev G F (.tup as))) := by
  refine PE.weak (pe_tup ha) fun τ H Q ⟨σ, S, m, rs, re, p⟩ => ?_
  simp only [ev] at p
  refine ⟨σ, S, m, rs, re, ?_⟩
  cases e : evs G F as σ S with
  | ok ds S' =>
    rw [e, bind_ok] at p
    intro vs m' H' g1 rs1 rl
    have hl := small_len (rl.length.symm.trans (evs_len hk e)) hn
    exact ⟨hl, fun q hq => p _ m' _ (g1.trans (Gr.push hq)) (rs1.push hq) (.tup (.inl (.inl upd_same)) hl (rl.mono (Gr.push hq) rs1))⟩
  | ex x S' => rw [e] at p; exact p
  | bad => rw [e] at p; exact p
theorem e_lst {as : Tms} {es : List Expr} {pos : Pos} (hk : chks Tb N sc as es = true) (hn : es.length ≤ 1000) (ha : PA X es (RdA L W (evs G F as))) : PE X (.List es pos) (RdE L W (ev G F (.lst as))) := by
  refine PE.weak (pe_lst ha) fun τ H Q ⟨σ, S, m, rs, re, p⟩ => ?_
  simp only [ev] at p
  refine ⟨σ, S, m, rs, re, ?_⟩
  cases e : evs G F as σ S with
  | ok ds S' =>
    rw [e, bind_ok] at p
    intro vs m' H' g1 rs1 rl
    have hl := small_len (rl.length.symm.trans (evs_len hk e)) hn
    exact ⟨hl, fun q hq => p _ m' _ (g1.trans (Gr.push hq)) (rs1.push hq) (.lst upd_same (rs1.fresh hq) hl (rl.mono (Gr.push hq) rs1))⟩
  | ex x S' => rw [e] at p; exact p
  | bad => rw [e] at p; exact p
theorem e_new {as : Tms} {es : List Expr} {pos : Pos} (hk : chks Tb N sc as es = true) (hn : es.length ≤ 1000) (ha : PA X es (RdA L W (evs G F as))) : PE X (.List es pos) (RdE L W (ev G F (.new as))) := by
  refine PE.weak (pe_lst ha) fun τ H Q ⟨σ, S, m, rs, re, p⟩ => ?_
  simp only [ev] at p
  refine ⟨σ, S, m, rs, re, ?_⟩
  cases e : evs G F as σ S with
  | ok ds S' =>
    rw [e, bind_ok] at p
    intro vs m' H' g1 rs1 rl
    have hl := small_len (rl.length.symm.trans (evs_len hk e)) hn
    refine ⟨hl, fun q hq => p _ (m' ++ [q]) _ (g1.trans (Gr.alloc hq)) (rs1.alloc hq ⟨vs, rfl, hl, rl⟩) (.ref ?_)⟩
    rw [← rs1.len, List.getElem?_append_right (Nat.le_refl _), Nat.sub_self]
    rfl
  | ex x S' => rw [e] at p; exact p
  | bad => rw [e] at p; exact p
theorem rg_rp {m : List Addr} {H : Hp} (i : Int) : ∀ n : Nat, RpL L.K L.fa m H (rngN i 1 n) ((List.range n).map fun j => V.int (i + (j : Nat))) := fun n => by
  induction n generalizing i with
  | zero => exact .nil
  | succ n ih =>
    rw [List.range_succ_eq_map, List.map_cons, List.map_map]
    have z := ih (i + 1)
    have e : ((fun j : Nat => V.int (i + (j : Nat))) ∘ Nat.succ) = fun j : Nat => V.int (i + 1 + (j : Nat)) := by
      funext j
      show V.int (i + ((j + 1 : Nat) : Int)) = _
      congr 1
      omega
    rw [e]
    have e0 : i + ((0 : Nat) : Int) = i := by omega
    rw [e0]
    exact .cons (.c (.int i)) z
theorem e_rgl {tp : Bool} {a : Tm} {q1 q2 p1 p2 : Pos} {e : Expr} {x : Str} (M : ModOk X L Tb G) (hx : x = if tp then "tuple" else "list") (h : freeB Tb sc x = true) (h2 : freeB Tb sc "range" = true) (hs : notStar e = true) (ha : PE X e (RdE L W (ev G F a))) :
    PE X (.Call (.Name x q1) [.Call (.Name "range" q2) [e] [] p2] [] p1) (RdE L W (ev G F (.rgl tp a))) := by
  obtain ⟨k1, k2, k3, k4⟩ := freeB_ok g M h
  obtain ⟨r1, r2, r3, r4⟩ := freeB_ok g M h2
  have st := star_cons (es := []) (env := X.env) hs
  have rg := prg_1 (p := q2) (pos := p2) r1 r2 ha st
  have key : ∀ {τ H} {Q : VK}, RdE L W (ev G F (.rgl tp a)) τ H Q → tRg1 (RdE L W (ev G F a)) τ H fun i j H1 => RgOk i j ∧ ∀ q, H1 q = none → Q (.ref q) (upd H1 q (if tp then .tup (rgV i j) else .lst (rgV i j))) := fun {τ H Q} ⟨σ, S, m, rs, re, p⟩ => by
    simp only [ev] at p
    refine ⟨σ, S, m, rs, re, (Pst.bind p).imp fun v H1 ⟨d, S1, m1, g1, rs1, ra, p1⟩ => ?_⟩
    obtain ⟨d', e', q⟩ := p1.liftD
    obtain ⟨xs, e2, rfl⟩ := Option.map_eq_some_iff.mp e'
    unfold rglD at e2
    split at e2
    · rename_i j
      split at e2 <;> cases e2
      rename_i hj
      cases ra
      obtain ⟨b1, b2⟩ := hj
      unfold small62 at b1
      simp only [Bool.and_eq_true, decide_eq_true_eq] at b1
      have b2 : j ≤ 16777216 := b2
      refine ⟨j, rfl, ⟨by omega, by omega, b1.1, b1.2, by omega⟩, fun p hp => ?_⟩
      have len : (rgV 0 j).length ≤ sizeLine := by
        rw [rgV_length, sizeLine_eq]
        omega
      have rl : RpL L.K L.fa m1 (upd H1 p (if tp then .tup (rgV 0 j) else .lst (rgV 0 j))) (rngN 0 1 j.toNat) (rgV 0 j) := by
        unfold rgV
        rw [Int.sub_zero]
        exact rg_rp g 0 j.toNat
      cases tp with
      | true => exact q _ _ (Gr.push hp) (rs1.push hp) (.tup (.inl (.inl upd_same)) len rl)
      | false => exact q _ _ (Gr.push hp) (rs1.push hp) (.lst upd_same (rs1.fresh hp) len rl)
    · cases e2
  cases tp with
  | true =>
    cases hx
    exact PE.weak (pe_tupRg g.calm k1 k2 rg (by rfl)) fun τ H Q h => key h
  | false =>
    cases hx
    exact PE.weak (pe_listRg g.calm k1 k2 rg (by rfl)) fun τ H Q h => key h
omit g in
/-- a written dict's pairs -/
def dlV (kvs : List (Int × Cst)) : List (Key × V) := kvs.map fun q => (.inl q.1, cV q.2)
omit g in
theorem cst_pe {k : Cst} {e : Expr} (h : cstE k e = true) : PE X e (tC (cV k)) := by
  unfold cstE at h
  split at h
  · unfold cstB at h
    split at h
    · exact pe_non
    · rename_i b b'
      obtain rfl : b = b' := eq_of_beq h
      exact pe_bl
    · rename_i b b'
      obtain rfl : b = b' := of_decide_eq_true h
      exact pe_int
    · rename_i b b'
      obtain rfl : b = b' := of_decide_eq_true h
      exact pe_str
    · cases h
  · cases h
omit g in
theorem dl_pairs {pos : Pos} : ∀ {kvs : List (Int × Cst)} {ks : List (Option Expr)} {vs : List Expr}, dlitB kvs ks vs = true → PPs X pos ks vs (kvs.map fun q => (tC (.int q.1), tC (cV q.2))) ∧ ks.all (·.isSome) = true ∧ ks.length = kvs.length ∧ vs.length = kvs.length
  | [], ks, vs, h => by
    unfold dlitB at h
    obtain ⟨h1, h2⟩ := bA h
    have e1 : ks = [] := by simpa using h1
    have e2 : vs = [] := by simpa using h2
    subst e1 e2
    exact ⟨pps_nil, rfl, rfl, rfl⟩
  | q :: r, ks, vs, h => by
    unfold dlitB at h
    split at h
    · split at h
      · rename_i _ k ks _ v vs
        obtain ⟨h1, h⟩ := bA h
        obtain ⟨h2, h3⟩ := bA h
        obtain ⟨a, b, c, d⟩ := dl_pairs (pos := pos) h3
        match k, h1 with
        | some e, h1 => exact ⟨pps_cons (cst_pe h1) (cst_pe h2) a, by simpa using b, by simp [c], by simp [d]⟩
      · cases h
    · cases h
omit g in
theorem dl_tp {σ : L2.St} {H : Hp} : ∀ (kvs : List (Int × Cst)) (Q : List (V × V) → Hp → Prop), Q ((dlV kvs).map fun kv => (kV kv.1, kv.2)) H → tPairs (kvs.map fun q => (tC (.int q.1), tC (cV q.2))) σ H Q
  | [], Q, h => h
  | q :: r, Q, h => dl_tp r (fun ps H3 => Q ((V.int q.1, cV q.2) :: ps) H3) h
omit g in
theorem put_new {k : Key} {v : V} : ∀ {kvs : List (Key × V)}, k ∉ kvs.map (·.1) → putK kvs k v = kvs ++ [(k, v)] := fun {kvs} h => by
  unfold putK
  rw [if_neg]
  intro z
  obtain ⟨q, hq, e⟩ := List.any_eq_true.mp z
  exact h (List.mem_map.mpr ⟨q, hq, of_decide_eq_true e⟩)
omit g in
theorem merge_nd : ∀ {more kvs : List (Key × V)}, ((kvs ++ more).map (·.1)).Nodup → mergeK kvs more = kvs ++ more
  | [], kvs, _ => by rw [List.append_nil]; rfl
  | q :: r, kvs, h => by
    show mergeK (putK kvs q.1 q.2) r = _
    rw [put_new (fun z => by
      rw [List.map_append, List.nodup_append] at h
      exact h.2.2 _ z _ (by simp) rfl)]
    rw [merge_nd (by simpa using h)]
    simp
omit g in
theorem dlV_get {n : Int} : ∀ {kvs : List (Int × Cst)} {d : D}, ((kvs.find? fun q => decide (q.1 = n)).map fun q => D.c q.2) = some d → ∃ c, d = .c c ∧ valV (dlV kvs) (.inl n) = some (cV c)
  | [], d, h => by cases h
  | q :: r, d, h => by
    by_cases e : q.1 = n
    · rw [List.find?_cons_of_pos (by simpa using e)] at h
      cases h
      exact ⟨q.2, rfl, valV_pos (p := ((.inl q.1 : Key), cV q.2)) (by show (Sum.inl q.1 : Key) = _; rw [e])⟩
    · rw [List.find?_cons_of_neg (by simpa using e)] at h
      obtain ⟨c, h1, h2⟩ := dlV_get h
      exact ⟨c, h1, (valV_neg (p := ((.inl q.1 : Key), cV q.2)) (fun z => e (by cases z; rfl))).trans h2⟩
theorem e_dlx {kvs : List (Int × Cst)} {i : Tm} {ks : List (Option Expr)} {vs : List Expr} {p q : Pos} {b : Expr} (nd : (kvs.map (·.1)).Nodup) (few : kvs.length ≤ 15) (ne : kvs ≠ []) (h : dlitB kvs ks vs = true) (hp : plainI b = true) (hi : PE X b (RdE L W (ev G F i))) :
    PE X (.Subscript (.Dict ks vs p) b q) (RdE L W (ev G F (.dlx kvs i))) := by
  obtain ⟨a1, a2, a3, a4⟩ := dl_pairs (X := X) (pos := p) h
  have hu := g.un
  have len : (dlV kvs).length = kvs.length := List.length_map _
  refine PE.weak (pe_dget (by omega) (pe_disp a1 a2 (a3.trans a4.symm) (fun z => ne (by rw [z] at a3; exact List.eq_nil_of_length_eq_zero a3.symm)) (by rw [a3]; exact few)) hi (plainI_ok hp)) fun τ H Q ⟨σ, S, m, rs, re, pp⟩ => ?_
  simp only [ev] at pp
  intro a na
  refine dl_tp kvs _ ⟨upd_same, dlV kvs, rfl, by rw [len]; exact few, ?_⟩
  have mg : mergeK [] (dlV kvs) = dlV kvs := merge_nd (by
    rw [List.nil_append]
    unfold dlV
    rw [List.map_map]
    have : ((fun q : Key × V => q.1) ∘ fun q : Int × Cst => ((.inl q.1 : Key), cV q.2)) = fun q => (Sum.inl q.1 : Key) := rfl
    rw [this]
    have e2 : (kvs.map fun q => (Sum.inl q.1 : Key)) = (kvs.map (·.1)).map (fun i : Int => (Sum.inl i : Key)) := by rw [List.map_map]; rfl
    rw [e2]
    exact List.Pairwise.map _ (fun x y hxy z => hxy (by cases z; rfl)) nd)
  rw [mg]
  have eu : upd (upd H a (.dK [])) a (.dK (dlV kvs)) = upd H a (.dK (dlV kvs)) := by
    funext c
    by_cases hc : c = a
    · rw [hc, upd_same, upd_same]
    · rw [upd_ne hc, upd_ne hc, upd_ne hc]
  rw [eu]
  refine ⟨σ, S, m, rs.push na, re.mono (Gr.push na) rs, (Pst.bind (pp.step (Gr.push na))).imp fun y H2 ⟨dy, S2, m2, g2, rs2, ry, p2⟩ => ?_⟩
  obtain ⟨d', e', fin⟩ := p2.liftD
  unfold dlxD at e'
  split at e'
  · rename_i n
    obtain ⟨c, rfl, hv⟩ := dlV_get e'
    cases ry
    exact ⟨a, cV c, rfl, .inl ⟨dlV kvs, .inl n, .inl (g2.keep a _ upd_same fun hm => by rcases rs.mem hm with ⟨xs, e⟩ | ⟨ws, e⟩ <;> (rw [na] at e; cases e)), rfl, hv.symm⟩, fin _ H2 (.refl _ _) rs2 (.c c)⟩
  · cases e'
theorem e_edct {pos : Pos} : PE X (.Dict [] [] pos) (RdE L W (ev G F .edct)) := by
  refine PE.weak pe_dnewK fun τ H Q ⟨σ, S, m, rs, re, p⟩ => ?_
  simp only [ev] at p
  intro q hq
  exact p _ m _ (Gr.push hq) (rs.push hq) (.edc upd_same (rs.fresh hq))
theorem keys_rp {m : List Addr} {H : Hp} : ∀ (ks : List Ky), RpL L.K L.fa m H (ks.map kyD) (ks.map fun k => kV (kyK k))
  | [] => .nil
  | k :: ks => .cons (by cases k <;> exact .c _) (keys_rp ks)
theorem e_lkeys {o : Tm} {e : Expr} {p ap cp pos : Pos} (M : ModOk X L Tb G) (h : freeB Tb sc "list" = true) (hb : plainB e = true) (hl : (ap.endLine == cp.line) = true) (ho : PE X e (RdE L W (ev G F o))) : PE X (.Call (.Name "list" p) [.Call (.Attribute e "keys" ap) [] [] cp] [] pos) (RdE L W (ev G F (.lkeys o))) := by
  obtain ⟨h1, h2, h3, h4⟩ := freeB_ok g M h
  refine PE.weak (pe_lkeys g.calm ho h1 h2 (base_ok hb) hl) fun τ H Q ⟨σ, S, m, rs, re, p⟩ => ?_
  simp only [ev] at p
  refine ⟨σ, S, m, rs, re, (Pst.bind p).imp fun v H1 ⟨d, S1, m1, g1, rs1, ra, p1⟩ => ?_⟩
  obtain ⟨d', e', fin⟩ := p1.liftD
  obtain ⟨⟨n, kvs⟩, ea, rfl⟩ := Option.map_eq_some_iff.mp e'
  obtain ⟨b, ws, rfl, k1, k2, k3, k4, k5⟩ := dctAt_v (X := X) (fa := L.fa) (by rw [g.hL]; exact rs1) (by rw [g.hL]; exact ra) ea
  refine ⟨b, ws, rfl, k2, fun q hq => ?_⟩
  have ek : (ws.map fun kv => kV kv.1) = (kvs.map (·.1)).map fun k => kV (kyK k) := by
    have := congrArg (List.map kV) k4
    simpa [List.map_map, Function.comp_def] using this
  have len : (ws.map fun kv => kV kv.1).length ≤ sizeLine := by rw [List.length_map]; exact k3
  refine fin _ _ (Gr.push hq) (rs1.push hq) (.lst upd_same (rs1.fresh hq) len ?_)
  rw [ek]
  have z := keys_rp g (m := m1) (H := upd H1 q (.lst ((kvs.map (·.1)).map fun k => kV (kyK k)))) (kvs.map (·.1))
  have e2 : (kvs.map fun kv => kyD kv.1) = (kvs.map (·.1)).map kyD := by rw [List.map_map]; rfl
  show RpL _ _ _ _ (kvs.map fun kv => kyD kv.1) _
  rw [e2]
  exact z
theorem rpl_rev {m : List Addr} {H : Hp} : ∀ {ds : List D} {vs : List V}, RpL L.K L.fa m H ds vs → RpL L.K L.fa m H ds.reverse vs.reverse
  | _, _, .nil => .nil
  | _, _, .cons h t => by
    rw [List.reverse_cons, List.reverse_cons]
    exact (rpl_rev t).append (.cons h .nil)
theorem e_rev {a : Tm} {e : Expr} {k : Nat} {p1 p2 p3 pos : Pos} (ha : PE X e (RdE L W (ev G F a))) : PE X (.Subscript e (.Slice none none (some (.UnaryOp .USub (.Constant (.int 1) k p1) p2)) p3) pos) (RdE L W (ev G F (.rev a))) := by
  refine PE.weak (pe_back ha) fun τ H Q ⟨σ, S, m, rs, re, p⟩ => ?_
  simp only [ev] at p
  refine ⟨σ, S, m, rs, re, (Pst.bind p).imp fun v H1 ⟨d, S1, m1, g1, rs1, ra, p1⟩ => ?_⟩
  obtain ⟨d', e', fin⟩ := p1.liftD
  unfold revD at e'
  split at e'
  · rename_i xs hx
    cases e'
    cases see_tup hx
    cases ra with
    | tup t z l => exact ⟨_, _, rfl, .inr ⟨by rw [g.hL]; exact t, fun q hq => fin _ _ (Gr.push hq) (rs1.push hq) (.tup (.inl (.inl upd_same)) (by rw [List.length_reverse]; exact z) (rpl_rev g (l.mono (Gr.push hq) rs1)))⟩⟩
  · rename_i xs hx
    cases e'
    obtain ⟨b, vs, rfl, c1, c2, c3⟩ := see_lst (X := X) (fa := L.fa) (by rw [g.hL]; exact rs1) (by rw [g.hL]; exact ra) hx
    rw [g.hL] at c3
    exact ⟨_, _, rfl, .inl ⟨.of c1, fun q hq => fin _ _ (Gr.push hq) (rs1.push hq) (.lst upd_same (rs1.fresh hq) (by rw [List.length_reverse]; exact c2) (rpl_rev g (c3.mono (Gr.push hq) rs1)))⟩⟩
  · cases e'
theorem cat_v {m : List Addr} {S : Store} {H : Hp} (rs : RS L.K L.fa m S H) : ∀ {xs ys : List D} {vs : List V}, RpL L.K L.fa m H xs vs → catD xs = some ys → ∃ zs : List (Addr × List V), vs = zs.map (fun p => V.ref p.1) ∧ (∀ p ∈ zs, H p.1 = some (.lst p.2)) ∧ RpL L.K L.fa m H ys (zs.map (·.2)).flatten ∧ (zs = [] → xs = [])
  | [], ys, _, .nil, h => by
    cases h
    exact ⟨[], rfl, (fun p h => by cases h), .nil, fun _ => rfl⟩
  | x :: r, ys, _, .cons h t, e => by
    cases x with
    | lst us =>
      obtain ⟨ws, e1, rfl⟩ := Option.map_eq_some_iff.mp (show (catD r).map (us ++ ·) = some ys from e)
      obtain ⟨zs, h1, h2, h3, h4⟩ := cat_v rs t e1
      cases h with
      | @lst a vs' _ k1 k2 k3 k4 =>
        refine ⟨(a, vs') :: zs, by rw [h1]; rfl, fun p hp => ?_, ?_, fun z => nomatch z⟩
        · rcases List.mem_cons.mp hp with rfl | hp
          · exact k1
          · exact h2 p hp
        · rw [List.map_cons, List.flatten_cons]
          exact k4.append h3
    | _ => cases e
theorem e_sum2 {a : Tm} {e : Expr} {q p1 pos : Pos} (M : ModOk X L Tb G) (h : freeB Tb sc "sum" = true) (hs : notStar e = true) (ha : PE X e (RdE L W (ev G F a))) : PE X (.Call (.Name "sum" q) [e, .List [] p1] [] pos) (RdE L W (ev G F (.sum2 a))) := by
  obtain ⟨h1, h2, h3, h4⟩ := freeB_ok g M h
  have st := star_cons (es := [.List [] p1]) (env := X.env) hs
  refine PE.weak (pe_callB (cr_cat g.calm) h1 h2 (by decide +kernel) (pa_cons ha (pa_cons (pe_lst pa_nil) pa_nil (by rfl)) st) h3 h4 st rfl) fun τ H Q ⟨σ, S, m, rs, re, p⟩ => ?_
  simp only [ev] at p
  refine ⟨σ, S, m, rs, re, (Pst.bind p).imp fun v H1 ⟨d, S1, m1, g1, rs1, ra, p1⟩ => ?_⟩
  obtain ⟨d', e', fin⟩ := p1.liftD
  refine ⟨Nat.zero_le _, fun t ht => ?_⟩
  unfold sum2D at e'
  split at e'
  · rename_i xs hx
    obtain ⟨b, vs, rfl, c1, c2, c3⟩ := see_lst (X := X) (fa := L.fa) (by rw [g.hL]; exact rs1) (by rw [g.hL]; exact ra) hx
    rw [g.hL] at c3
    cases hc : catD xs with
    | none => rw [hc] at e'; cases e'
    | some ys =>
      rw [hc, Option.bind_some] at e'
      split at e' <;> cases e'
      rename_i few
      obtain ⟨zs, rfl, k2, k3, k4⟩ := cat_v g rs1 c3 hc
      have ne : b ≠ t := ne_of_none c1 ht
      have few' : (zs.map (·.2)).flatten.length ≤ sizeLine := by rw [← k3.length]; exact few
      refine ⟨b, t, zs, rfl, .of (by rw [upd_ne ne]; exact c1), upd_same, fun p hp => by rw [upd_ne (ne_of_none (k2 p hp) ht)]; exact k2 p hp, few', fun z => ?_, fun r hr => ?_⟩
      · subst z
        cases k4 rfl
        cases hc
        exact fin _ _ (Gr.push ht) (rs1.push ht) (.lst upd_same (rs1.fresh ht) (Nat.zero_le _) .nil)
      · exact fin _ _ ((Gr.push ht).trans (Gr.push hr)) ((rs1.push ht).push hr) (.lst upd_same ((rs1.push ht).fresh hr) few' ((k3.mono (Gr.push ht) rs1).mono (Gr.push hr) (rs1.push ht)))
  · cases e'
omit g in
theorem strs_v {m : List Addr} {H : Hp} : ∀ {ds : List D} {ys : List Str} {vs : List V}, strsD ds = some ys → RpL L.K L.fa m H ds vs → vs = ys.map V.str
  | [], ys, vs, e, r => by
    cases e
    cases r
    rfl
  | .c (.str x) :: r, ys, vs, e, rl => by
    obtain ⟨zs, e1, rfl⟩ := Option.map_eq_some_iff.mp (show (strsD r).map (x :: ·) = some ys from e)
    cases rl with
    | cons h t =>
      cases h
      rw [strs_v e1 t]
      rfl
  | .c .non :: r, ys, vs, e, rl => by cases e
  | .c (.bl _) :: r, ys, vs, e, rl => by cases e
  | .c (.int _) :: r, ys, vs, e, rl => by cases e
  | .tup _ :: r, ys, vs, e, rl => by cases e
  | .lst _ :: r, ys, vs, e, rl => by cases e
  | .ref _ :: r, ys, vs, e, rl => by cases e
  | .fn _ :: r, ys, vs, e, rl => by cases e
  | .ty _ :: r, ys, vs, e, rl => by cases e
  | .fz _ :: r, ys, vs, e, rl => by cases e
  | .ptup _ :: r, ys, vs, e, rl => by cases e
  | .edc :: r, ys, vs, e, rl => by cases e
omit g in
theorem rp_strs {m : List Addr} {H : Hp} : ∀ ys : List Str, RpL L.K L.fa m H (ys.map fun x => D.str x) (ys.map V.str)
  | [] => .nil
  | y :: ys => .cons (.c (.str y)) (rp_strs ys)
/-- s.join(xs), s.split(x) -/
theorem e_smth {b : Bool} {o a : Tm} {ap cp : Pos} {e e1 : Expr} (hb : plainB e = true) (hl : (ap.endLine == cp.line) = true) (hs : notStar e1 = true) (ho : PE X e (RdE L W (ev G F o))) (ha : PE X e1 (RdE L W (ev G F a))) :
    PE X (.Call (.Attribute e (if b then "join" else "split") ap) [e1] [] cp) (RdE L W (ev G F (.smth b o a))) := by
  have st : starEach [e1] X.env = [(false, eval e1 X.env)] := by
    rw [star_cons hs]
    rfl
  have key : ∀ (r : V → List V → Hp → VK → Prop), (∀ (x y : V) (H2 : Hp) (Q : VK), (∃ (z : Str) (m : List Addr) (S : Store) (d d' : D), x = .str z ∧ RS L.K L.fa m S H2 ∧ Rp L.K L.fa m H2 d y ∧ smthD b (.c (.str z)) (see S d) = some d' ∧ ∀ v H', Gr m H2 m H' → RS L.K L.fa m S H' → Rp L.K L.fa m H' d' v → Q v H') → r x [y] H2 Q) →
      ∀ τ H Q, RdE L W (ev G F (.smth b o a)) τ H Q → tM1 r (RdE L W (ev G F o)) (RdE L W (ev G F a)) τ H Q := fun r hr τ H Q ⟨σ, S, m, rs, re, p⟩ => by
    simp only [ev] at p
    refine ⟨σ, S, m, rs, re, (Pst.bind p).imp fun v H1 ⟨d, S1, m1, g1, rs1, ra, p1⟩ => ?_⟩
    split at p1
    · rename_i hk
      unfold isStrD at hk
      split at hk
      · rename_i z
        cases ra
        refine ⟨⟨z, rfl⟩, σ, S1, m1, rs1, re.mono g1 rs, (Pst.bind p1).imp fun y H2 ⟨dk, S2, m2, g2, rs2, rk, p2⟩ => ?_⟩
        obtain ⟨d', e', q⟩ := p2.liftD
        exact hr _ _ _ _ ⟨z, m2, S2, dk, d', rfl, rs2, rk, e', q⟩
      · cases hk
    · exact p1.elim
  cases b with
  | true =>
    refine PE.weak (pe_join (o := e) (e := e1) ho ha st (base_ok hb) hl) (key _ fun x y H2 Q q2 => ?_)
    obtain ⟨z, m, S, d, d', rfl, rs, rd, e', fin⟩ := q2
    have e' : joinD z (see S d) = some d' := e'
    unfold joinD at e'
    split at e'
    · rename_i ds hd
      obtain ⟨ys, e2, e3⟩ := Option.bind_eq_some_iff.mp e'
      split at e3
      · rename_i hz
        cases e3
        obtain ⟨p, vs, rfl, h3, h4, h5⟩ := see_lst (X := X) (by rw [g.hL]; exact rs) (by rw [g.hL]; exact rd) hd
        rw [g.hL] at h5
        have ev := strs_v e2 h5
        subst ev
        exact ⟨z, p, ys, rfl, rfl, .inl (.of h3), hz, fin _ H2 (.refl _ _) rs (.c (.str _))⟩
      · cases e3
    · cases e'
  | false =>
    refine PE.weak (pe_split (o := e) (e := e1) ho ha st (base_ok hb) hl) (key _ fun x y H2 Q q2 => ?_)
    obtain ⟨z, m, S, d, d', rfl, rs, rd, e', fin⟩ := q2
    have e' : splitD z (see S d) = some d' := e'
    unfold splitD at e'
    split at e'
    · rename_i w hd
      split at e'
      · rename_i hz
        cases e'
        cases see_c hd
        cases rd
        refine ⟨z, w, rfl, rfl, hz.1, hz.2.1, fun p hp => fin _ _ (Gr.push hp) (rs.push hp) (.lst upd_same (rs.fresh hp) (by rw [List.length_map]; exact hz.2.2) (rp_strs _))⟩
      · cases e'
    · cases e'
theorem e_sset {a : Tm} {e : Expr} {q q2 p2 pos : Pos} (M : ModOk X L Tb G) (h : freeB Tb sc "sorted" = true) (h2 : freeB Tb sc "set" = true) (hs : notStar e = true) (ha : PE X e (RdE L W (ev G F a))) : PE X (.Call (.Name "sorted" q) [.Call (.Name "set" q2) [e] [] p2] [] pos) (RdE L W (ev G F (.sset a))) := by
  obtain ⟨h1, h2', h3, h4⟩ := freeB_ok g M h
  obtain ⟨k1, k2, k3, k4⟩ := freeB_ok g M h2
  have st := star_cons (es := []) (env := X.env) hs
  have inner := pe_callTy (p := q2) (pos := p2) (cr_setL g.calm) k1 k2 (by decide +kernel) (pa_cons ha pa_nil st) k3 k4 st rfl
  refine PE.weak (pe_callB (cr_sortedSet g.calm) h1 h2' (by decide +kernel) (pa_cons inner pa_nil (by rfl)) h3 h4 (by rfl) rfl) fun τ H Q ⟨σ, S, m, rs, re, p⟩ => ?_
  simp only [ev] at p
  refine ⟨σ, S, m, rs, re, (Pst.bind p).imp fun v H1 ⟨d, S1, m1, g1, rs1, ra, p1⟩ => ?_⟩
  obtain ⟨d', e', fin⟩ := p1.liftD
  unfold ssetD at e'
  split at e'
  · rename_i xs hx
    obtain ⟨b, vs, rfl, c1, c2, c3⟩ := see_lst (X := X) (fa := L.fa) (by rw [g.hL]; exact rs1) (by rw [g.hL]; exact ra) hx
    cases hi : intsD xs with
    | none => rw [hi] at e'; cases e'
    | some is =>
      rw [hi, Option.bind_some] at e'
      split at e' <;> cases e'
      rename_i few
      cases ints_v hi c3
      refine ⟨b, is, rfl, .of c1, few, fun p n hp hn => ⟨p, _, n, rfl, upd_same, by omega, fun ns r hs hm _ hr => ?_⟩⟩
      have e2 : ns = sortI (onceI is) := asc_uniq hs (once_asc is) fun k => by
        rw [hm k, decide_eq_true_eq, (sortI_perm _).mem_iff, once_mem]
      have hr1 : H1 r = none := by
        by_cases z : r = p
        · rw [z]; exact hp
        · rw [upd_ne z] at hr; exact hr
      have len : ((sortI (onceI is)).map V.int).length ≤ sizeLine := by
        rw [List.length_map, (sortI_perm _).length_eq]
        have := once_len is
        rw [sizeLine_eq]
        omega
      rw [e2]
      exact fin _ _ ((Gr.push hp).trans (Gr.push hr)) ((rs1.push hp).push hr) (.lst upd_same ((rs1.push hp).fresh hr) len (by
        have := rp_ints (X := X) (fa := L.fa) (m := m1) (H := upd (upd H1 p (SetO X.w p (fun j => decide (j ∈ is)) n)) r (.lst ((sortI (onceI is)).map V.int))) (sortI (onceI is))
        rw [g.hL] at this
        exact this))
  · cases e'
theorem e_newc {a : Tm} {q pos : Pos} {e : Expr} (M : ModOk X L Tb G) (h : freeB Tb sc "list" = true) (hs : notStar e = true) (ha : PE X e (RdE L W (ev G F a))) : PE X (.Call (.Name "list" q) [e] [] pos) (RdE L W (ev G F (.newc a))) := by
  obtain ⟨h1, h2, h3, h4⟩ := freeB_ok g M h
  have st := star_cons (es := []) (env := X.env) hs
  refine PE.weak (pe_callTy call_list_of h1 h2 (by decide +kernel) (pa_cons ha pa_nil st) h3 h4 st rfl) fun τ H Q ⟨σ, S, m, rs, re, p⟩ => ?_
  simp only [ev] at p
  refine ⟨σ, S, m, rs, re, (Pst.bind p).imp fun v H1 ⟨d, S1, m1, g1, rs1, ra, p1⟩ => ?_⟩
  have fin : ∀ {xs : List D} {vs : List V}, vs.length ≤ sizeLine → RpL L.K L.fa m1 H1 xs vs → Pst L (Rp L.K L.fa) W τ m1 H1 Q (.ok (.ref S1.length) (S1 ++ [.lst xs])) → ∀ q, H1 q = none → Q (.ref q) (upd H1 q (.lst vs)) := fun hz rl p q hq => by
    refine p _ (m1 ++ [q]) _ (Gr.alloc hq) (rs1.alloc hq ⟨_, rfl, hz, rl⟩) (.ref ?_)
    rw [← rs1.len, List.getElem?_append_right (Nat.le_refl _), Nat.sub_self]
    rfl
  split at p1
  · rename_i xs hx
    cases see_tup hx
    cases ra with
    | tup t z l => exact ⟨_, _, rfl, .inr (by rw [g.hL]; exact t), fin z l p1⟩
  · rename_i xs hx
    obtain ⟨b, vs, rfl, k1, k2, k3⟩ := see_lst (X := X) (fa := L.fa) (by rw [g.hL]; exact rs1) (by rw [g.hL]; exact ra) hx
    rw [g.hL] at k3
    exact ⟨_, _, rfl, .inl (.of k1), fin k2 k3 p1⟩
  · exact p1.elim
theorem e_varw {i : Nat} {x : Str} {pos : Pos} (h : slotB N sc i x = true) : PE X (.Name x pos) (RdE L W (ev G F (.varw i))) := by
  obtain ⟨h1, h⟩ := bA h
  obtain ⟨h2, h3⟩ := bA h
  obtain ⟨d1, d2, d3⟩ := okN_ok h3
  refine PE.weak (pe_var (i := i) (by rw [g.hN]; exact of_decide_eq_true h1) (by rw [g.hsc]; exact visB_ok h2) d1 d2) fun τ H Q ⟨σ, S, m, rs, re, p⟩ => ?_
  simp only [ev] at p
  split at p
  · rename_i ds hd
    obtain ⟨v, e1, e2⟩ := re.at_ i _ hd
    cases e2 with
    | ptup hf hn z l => exact ⟨_, e1, p _ m H (.refl _ _) rs (.tup (.inl (.inr ⟨_, hf⟩)) z l)⟩
  · rename_i d _ hd
    obtain ⟨v, e1, e2⟩ := re.at_ i _ hd
    exact ⟨v, e1, p v m H (.refl _ _) rs e2⟩
  · exact p.elim
omit g in
/-- tuple(l): the new object has no dict -/
theorem call_tupP : CallR X (.type "tuple") (fun xs H Q => ∃ p ys, xs = [.ref p] ∧ SqL X.K H p ys ∧ ∀ (l : Addr) (o : Obj), H l = none → o.dict = none → Q (.ref l) (upd H l (.frz o (.tup ys)))) := by
  intro pins s σ H xs us Q I r ⟨p, ys, e, hq, q⟩
  subst e
  obtain ⟨u, rfl, rx⟩ := vals1 r
  cases rx
  obtain ⟨its, r', pl, hz⟩ := I.list hq
  have hlen := r'.length
  refine call_tuple_list pl.isList (fun h' kp => ?_) (by simp only [List.size_toArray] <;> omega)
  have I1 : Inv X pins σ H { s with heap := h' } := I.kept (t' := s.toks) kp
  have I2 : Inv X pins σ (upd H h'.objs.size (.frz { cls := .type "tuple", data := .seq its.toArray } (.tup ys))) { s with heap := h'.push { cls := .type "tuple", data := .seq its.toArray } } :=
    I1.laid (t' := s.toks) (fun b o e => Heap.get?_push_of_some _ e) (Nat.le_refl _) (show ObjOk X.prog X.w _ _ _ (.frz _ (.tup ys)) from ⟨Heap.get?_push_size _ rfl, hz, its, r', IsTup.new _ _⟩)
  exact ⟨.ref h'.objs.size, _, I2, rfl, q _ _ (I1.hok.fresh (Nat.le_refl _)) rfl⟩
theorem e_tupp {a : Tm} {q pos : Pos} {e : Expr} (M : ModOk X L Tb G) (h : freeB Tb sc "tuple" = true) (hs : notStar e = true) (ha : PE X e (RdE L W (ev G F a))) : PE X (.Call (.Name "tuple" q) [e] [] pos) (RdE L W (ev G F (.tupp a))) := by
  obtain ⟨h1, h2, h3, h4⟩ := freeB_ok g M h
  have st := star_cons (es := []) (env := X.env) hs
  refine PE.weak (pe_callTy call_tupP h1 h2 (by decide +kernel) (pa_cons ha pa_nil st) h3 h4 st rfl) fun τ H Q ⟨σ, S, m, rs, re, p⟩ => ?_
  simp only [ev] at p
  refine ⟨σ, S, m, rs, re, (Pst.bind p).imp fun v H1 ⟨d, S1, m1, g1, rs1, ra, p1⟩ => ?_⟩
  obtain ⟨d', e', fin⟩ := p1.liftD
  unfold tuppD at e'
  split at e'
  · rename_i xs hx
    cases e'
    obtain ⟨b, vs, rfl, k1, k2, k3⟩ := see_lst (X := X) (fa := L.fa) (by rw [g.hL]; exact rs1) (by rw [g.hL]; exact ra) hx
    rw [g.hL] at k3
    refine ⟨_, _, rfl, .of k1, fun p o hp hn => ?_⟩
    exact fin _ _ (Gr.push hp) (rs1.push hp) (.ptup upd_same hn k2 (k3.mono (Gr.push hp) rs1))
  · cases e'
theorem e_tix {i : Nat} {a : Tm} {x : Str} {p0 ap cp : Pos} {e1 : Expr} (h : slotB N sc i x = true) (hl : (ap.endLine == cp.line) = true) (hs : notStar e1 = true) (ha : PE X e1 (RdE L W (ev G F a))) :
    PE X (.Call (.Attribute (.Name x p0) "index" ap) [e1] [] cp) (RdE L W (ev G F (.tix i a))) := by
  obtain ⟨h1, h⟩ := bA h
  obtain ⟨h2, h3⟩ := bA h
  obtain ⟨d1, d2, d3⟩ := okN_ok h3
  have st : starEach [e1] X.env = [(false, eval e1 X.env)] := by
    rw [star_cons hs]
    rfl
  refine ⟨fun pins s τ H Q I ⟨σ, S, m, rs, re, p⟩ => ?_⟩
  simp only [ev] at p
  split at p
  · rename_i ds hd
    obtain ⟨v, e1', e2⟩ := re.at_ i _ hd
    cases e2 with
    | @ptup b o vs _ hf hn z l =>
      refine wpAny_Call_method_late rfl (few_one hs) hl rfl (thn ((pe_var (pos := p0) (i := i) (by rw [g.hN]; exact of_decide_eq_true h1) (by rw [g.hsc]; exact visB_ok h2) d1 d2).run pins s τ H (fun v H1 => v = .ref b ∧ H1 = H) I ⟨.ref b, e1', rfl, rfl⟩) fun u s1 ⟨v, H1, I1, r1, q1⟩ => ?_)
      obtain ⟨rfl, rfl⟩ := q1
      obtain rfl : u = Value.ref b := r1
      obtain ⟨ho, hz, its, rv, ot, hot, hc, hdt⟩ := I1.hok b _ hf
      have ho2 := ho
      rw [hot] at ho2
      obtain rfl := Option.some.inj ho2
      refine ⟨"tuple", "tuple.index", PySem.F.plainAttrs_tuple, PySem.F.slot_tuple_index, PySem.F.type_tuple_index, ⟨_, ho, hc⟩, fun a ea => by cases ea; exact ⟨_, ho, hn⟩, ?_⟩
      rw [st]
      refine Calls.callWith_builtin rfl (Calls.evalArgs_plain ?_)
      have hA := ((pa_cons ha pa_nil st) : PA X [e1] _).run cp pins s1 τ _ (fun ws H2 => ∃ (y : V) (d : D) (S2 : Store) (m2 : List Addr), ws = [y] ∧ Gr m _ m2 H2 ∧ RS L.K L.fa m2 S2 H2 ∧ Rp L.K L.fa m2 H2 d y ∧ Pst L (Rp L.K L.fa) W τ m2 H2 Q (lift (tixD ds d) S2)) I1 ⟨σ, S, m, rs, re, (Pst.bind p).imp fun y H2 ⟨d, S2, m2, g2, rs2, ry, p2⟩ => ⟨y, d, S2, m2, rfl, g2, rs2, ry, p2⟩⟩
      rw [st] at hA
      refine thn hA fun us s2 ⟨ws, H2, I2, r2, y, d, S2, m2, ew, g2, rs2, ry, p2⟩ => ?_
      subst ew
      obtain ⟨d', e', fin⟩ := p2.liftD
      unfold tixD at e'
      split at e'
      · rename_i zz
        obtain ⟨is, e3, e4⟩ := Option.bind_eq_some_iff.mp e'
        split at e4
        · rename_i hm
          cases e4
          cases ry
          have hf2 : H2 b = some (.frz _ (.tup vs)) := g2.keep b _ hf fun hm => by rcases rs.mem hm with ⟨xs, e⟩ | ⟨ws, e⟩ <;> (rw [e] at hf; cases hf)
          have ev : vs = is.map V.int := ints_v (X := X) (fa := L.fa) e3 (by rw [g.hL]; exact l)
          refine mt_tupIx pins s2 τ H2 (.ref b) [.int zz] (.ref b) us Q I2 rfl r2 ⟨b, is, zz, is.idxOf zz, rfl, rfl, .inl (.inr ⟨_, by rw [← ev]; exact hf2⟩), ?_, fun j hj => ?_, fin _ H2 (.refl _ _) rs2 (.c (.int _))⟩
          · rw [List.getElem?_eq_getElem (List.idxOf_lt_length_of_mem hm)]
            simp
          · intro hc
            exact idxOf_lt_ne hj hc
        · cases e4
      · cases e'
  · exact p.elim
theorem e_newd {pos : Pos} : PE X (.Dict [] [] pos) (RdE L W (ev G F .newd)) := by
  refine PE.weak pe_dnewK fun τ H Q ⟨σ, S, m, rs, re, p⟩ => ?_
  simp only [ev] at p
  intro q hq
  refine p _ (m ++ [q]) _ (Gr.alloc hq) (rs.alloc hq ⟨[], rfl, Nat.zero_le _, rfl, .nil⟩) (.ref ?_)
  rw [← rs.len, List.getElem?_append_right (Nat.le_refl _), Nat.sub_self]
  rfl
end
end
end Rf

set_option Elab.async false
set_option maxRecDepth 100000
set_option maxHeartbeats 1000000
/-! Rf, part H: targets, what is gone through, lists made by turns. -/
namespace Rf
open PySem PySem.Spec PyProof.Rows L2

/-! ### targets -/
/-- alike but at the slots is -/
def Same (is : List Nat) (τ τ' : L2.St) : Prop := τ'.length = τ.length ∧ ∀ j, j ∉ is → τ'[j]? = τ[j]?
theorem Same.refl (τ : L2.St) (is : List Nat) : Same is τ τ := ⟨rfl, fun _ _ => rfl⟩
theorem Same.trans {is js : List Nat} {τ τ' τ'' : L2.St} (a : Same is τ τ') (b : Same js τ' τ'') : Same (is ++ js) τ τ'' :=
  ⟨b.1.trans a.1, fun j h => (b.2 j fun hj => h (List.mem_append_right _ hj)).trans (a.2 j fun hj => h (List.mem_append_left _ hj))⟩
section
variable (L : Pl)
def RdG (t : Tg) : TG := fun v τ H Q => ∃ d σ σ' S m H0, Gr m H0 m H ∧ RS L.K L.fa m S H0 ∧ RE L.K L.fa m H0 σ τ ∧ Rp L.K L.fa m H0 d v ∧ asg t d σ = some σ' ∧ ∀ τ', RE L.K L.fa m H0 σ' τ' → Same (slotsT t) τ τ' → Q τ' H
def RdGs (ts : Tgs) : TGs := fun vs τ H Q => ∃ ds σ σ' S m H0, Gr m H0 m H ∧ RS L.K L.fa m S H0 ∧ RE L.K L.fa m H0 σ τ ∧ RpL L.K L.fa m H0 ds vs ∧ asgs ts ds σ = some σ' ∧ ∀ τ', RE L.K L.fa m H0 σ' τ' → Same (slotsTs ts) τ τ' → Q τ' H
end
section
variable {X : Cx} {L : Pl} {N : List Str} {sc : Scope} {fs : Str → Bool}
theorem pg_or {tg : Expr} {t u : TG} (h1 : PG X tg t) (h2 : PG X tg u) : PG X tg (fun v σ H Q => t v σ H Q ∨ u v σ H Q) :=
  ⟨fun pins s σ H v w Q I r h => h.elim (h1.run pins s σ H v w Q I r) (h2.run pins s σ H v w Q I r)⟩
theorem pg_weak {tg : Expr} {t u : TG} (h1 : PG X tg t) (h : ∀ v σ H Q, u v σ H Q → t v σ H Q) : PG X tg u :=
  ⟨fun pins s σ H v w Q I r q => h1.run pins s σ H v w Q I r (h _ _ _ _ q)⟩
theorem pgs_weak {ts : List Expr} {t u : TGs} (h1 : PGs X ts t) (h : ∀ v σ H Q, u v σ H Q → t v σ H Q) : PGs X ts u :=
  ⟨fun pins s σ H v w Q I r q => h1.run pins s σ H v w Q I r (h _ _ _ _ q)⟩
theorem asg_cons {e : Expr} {es : List Expr} {env : PySem.Env} (h : notStar e = true) : assignEach (e :: es) env = (false, assign e env) :: assignEach es env := by
  cases e <;> first | rfl | (exact absurd (show false = true from h) Bool.false_ne_true)
theorem chkGs_plain {ts : Tgs} {es : List Expr} {env : PySem.Env} (h : chkGs N sc fs ts es = true) : (assignEach es env).length = es.length ∧ (assignEach es env).findIdx? (·.1) = none := by
  induction es generalizing ts with
  | nil => exact ⟨rfl, rfl⟩
  | cons e es ih =>
    cases ts with
    | nil => simp [chkGs] at h
    | cons t r =>
      simp only [chkGs, Bool.and_eq_true] at h
      obtain ⟨i1, i2⟩ := ih h.2.2
      rw [asg_cons h.1]
      refine ⟨by rw [List.length_cons, List.length_cons, i1], ?_⟩
      rw [List.findIdx?_cons]
      simp [i2]
theorem asgs_len {ts : Tgs} {ds : List D} {σ σ' : Env} {es : List Expr} (h : chkGs N sc fs ts es = true) (e : asgs ts ds σ = some σ') : ds.length = es.length := by
  induction es generalizing ts ds σ with
  | nil =>
    cases ts with
    | nil =>
      cases ds with
      | nil => rfl
      | cons d ds => simp [asgs] at e
    | cons t r => simp [chkGs] at h
  | cons e0 es ih =>
    cases ts with
    | nil => simp [chkGs] at h
    | cons t r =>
      cases ds with
      | nil => simp [asgs] at e
      | cons d ds =>
        simp only [chkGs, Bool.and_eq_true] at h
        simp only [asgs] at e
        cases e1 : asg t d σ with
        | none => rw [e1] at e; cases e
        | some σ1 =>
          rw [e1] at e
          rw [List.length_cons, List.length_cons, ih h.2.2 e]
variable (hN : X.N = N) (nd : N.Nodup) (hsc : X.env.scope = sc) (calm : X.calm = true) (hL : X.K = L.K) (hfs : ∀ x, fs x = true → X.fn x = true)
include hN nd hsc calm hL hfs
mutual
theorem g_one : ∀ (t : Tg) (e : Expr), chkG N sc fs t e = true → PG X e (RdG L t)
  | .nm i, .Name x pos, h => by
    simp only [chkG, Bool.and_eq_true, decide_eq_true_eq] at h
    have hl : Loc X.env.scope x ∧ (X.fn x = true ∨ X.env.scope.names.lookup x = some .local) := by
      rw [hsc]
      have h2 := h.2
      unfold stoB at h2
      split at h2
      · rename_i e; exact ⟨.inl e, .inr e⟩
      · rename_i e; exact ⟨.inr e, .inl (hfs x h2)⟩
      · cases h2
    refine pg_weak (pg_name (i := i) (by rw [hN]; exact nd) (by rw [hN]; exact h.1) hl.1 hl.2) fun v τ H Q ⟨d, σ, σ', S, m, H0, gg, rs, re, r, ea, q⟩ => ?_
    simp only [asg] at ea
    split at ea
    · cases ea
      refine q _ (re.set i r) ⟨by rw [List.length_set], fun j hj => ?_⟩
      simp only [slotsT, List.mem_singleton] at hj
      exact List.getElem?_set_ne (fun z => hj z.symm)
    · cases ea
  | .tp ts, .Tuple es k pos, h => by
    simp only [chkG] at h
    have gs := g_all ts es h
    obtain ⟨p1, p2⟩ := chkGs_plain (env := X.env) h
    refine pg_weak (pg_or (pg_tup calm gs p1 p2) (pg_unl calm gs p1 p2)) fun v τ H Q ⟨d, σ, σ', S, m, H0, gg, rs, re, r, ea, q⟩ => ?_
    cases r with
    | tup a b c =>
      simp only [asg] at ea
      exact .inl ⟨_, _, rfl, by rw [hL]; exact gg.sqT rs a, c.length.symm.trans (asgs_len h ea), _, σ, σ', S, m, H0, gg, rs, re, c, ea, q⟩
    | lst a b b2 c =>
      simp only [asg] at ea
      exact .inr ⟨_, _, rfl, .inl (.inl (gg.keep _ _ a b)), c.length.symm.trans (asgs_len h ea), _, σ, σ', S, m, H0, gg, rs, re, c, ea, q⟩
    | _ => simp [asg] at ea
  | .nm _, .BoolOp .., h | .nm _, .NamedExpr .., h | .nm _, .BinOp .., h | .nm _, .UnaryOp .., h | .nm _, .Lambda .., h | .nm _, .IfExp .., h | .nm _, .Dict .., h | .nm _, .Set .., h | .nm _, .ListComp .., h | .nm _, .SetComp .., h | .nm _, .DictComp .., h | .nm _, .GeneratorExp .., h | .nm _, .Await .., h | .nm _, .Yield .., h | .nm _, .YieldFrom .., h | .nm _, .Compare .., h | .nm _, .Call .., h | .nm _, .JoinedStr .., h | .nm _, .Constant .., h | .nm _, .Attribute .., h | .nm _, .Subscript .., h | .nm _, .Starred .., h | .nm _, .List .., h | .nm _, .Tuple .., h | .nm _, .Slice .., h => by simp [chkG] at h
theorem g_all : ∀ (ts : Tgs) (es : List Expr), chkGs N sc fs ts es = true → PGs X es (RdGs L ts)
  | .nil, [], _ => pgs_weak pgs_nil fun vs τ H Q ⟨ds, σ, σ', S, m, H0, gg, rs, re, r, ea, q⟩ => by
    cases r with
    | nil =>
      simp only [asgs] at ea
      cases ea
      exact ⟨rfl, q τ re (.refl _ _)⟩
    | cons => simp [asgs] at ea
  | .cons t r, e :: es, h => by
    simp only [chkGs, Bool.and_eq_true] at h
    refine pgs_weak (pgs_cons (g_one t e h.2.1) (g_all r es h.2.2) (by rw [asg_cons h.1] <;> rfl)) fun vs τ H Q ⟨ds, σ, σ', S, m, H0, gg, rs, re, rr, ea, q⟩ => ?_
    cases rr with
    | nil => simp [asgs] at ea
    | @cons d ds v vs r1 r2 =>
      simp only [asgs] at ea
      cases e1 : asg t d σ with
      | none => rw [e1] at ea; cases ea
      | some σ1 =>
        rw [e1] at ea
        refine ⟨v, vs, rfl, d, σ, σ1, S, m, H0, gg, rs, re, r1, e1, fun τ1 re1 s1 => ⟨ds, σ1, σ', S, m, H0, gg, rs, re1, r2, ea, fun τ2 re2 s2 => q τ2 re2 ?_⟩⟩
        exact s1.trans s2
  | .nil, _ :: _, h => by simp [chkGs] at h
  | .cons _ _, [], h => by simp [chkGs] at h
end
end

/-! ### enumerate of a tuple -/
section
variable {P : Program} {w : World} {A : Around} {E : Value → Shared → Prop} {s : Shared}
set_option maxHeartbeats 2000000 in
theorem meets_enumB {x : Value} {ob : Obj} {Hs : Heap → Prop} (B : Begins x ob Hs) :
    Meets (Builtin.«enumerate.__new__» ⟨[.type "enumerate", x], []⟩) (fun _ R st => Hs st.heap ∧
      R (.ok (.ret (.ref (st.heap.push ob).objs.size))) { st with heap := (st.heap.push ob).push { cls := .type "enumerate", data := .fields #[.none, .bool false, .ref st.heap.objs.size, rawInt 0, .none, .none] } }) :=
  .of_wp fun prog w A R st hyp => by
    obtain ⟨hp, gn, dd, tk, os⟩ := st
    obtain ⟨hs, hyp⟩ := hyp
    have sub := sub_enumerate
    have it1 : ∀ {A1 : Around} {E1 : Value → Shared → Prop} {Q1 : Value → Shared → Prop}, Q1 (.ref hp.objs.size) ⟨hp.push ob, gn, dd, tk, os⟩ → wpAny (model prog w) A1 (pyIter x) Q1 E1 ⟨hp, gn, dd, tk, os⟩ :=
      fun q1 => B.iter prog w _ _ ⟨hp, gn, dd, tk, os⟩ _ hs q1
    wp_walk using it1
    refine wpAny_stack_any fun _ => wpAny_pure ?_
    split
    · rename_i cl _ _ _ _ _
      cases (cl == Value.type "enumerate")
      · wp_walk using it1
        exact ⟨_, rfl, hyp⟩
      · wp_walk using it1
        exact ⟨_, rfl, hyp⟩
    · wp_walk using it1
      exact ⟨_, rfl, hyp⟩
/-- enumerate(x): its two new objects -/
theorem enum_made {x : Value} {ob : Obj} {Hs : Heap → Prop} {Q : Value → Shared → Prop} (B : Begins x ob Hs) (hs : Hs s.heap)
    (q : ∀ hp, IsEnum hp (s.heap.objs.size + 1) s.heap.objs.size 0 .none → hp.get? s.heap.objs.size = some ob → (∀ b u, s.heap.get? b = some u → hp.get? b = some u) → Q (.ref (s.heap.objs.size + 1)) { s with heap := hp }) :
    wpAny (model P w) A (PySem.call (.type "enumerate") [x]) Q E s := by
  have sz : (s.heap.push ob).objs.size = s.heap.objs.size + 1 := Heap.size_push ..
  refine callType_new F.called_enumerate (by decide) (F.typeCall_enumerate_1 x) (F.newCall_enumerate_1 x) (fun self => F.args_object_init_2 self x) F.entry_enumerate_new (meets_enumB B) ⟨hs, ?_⟩
  show _ ∧ _
  rw [sz]
  generalize hb : ((s.heap.push ob).push { cls := .type "enumerate", data := .fields #[.none, .bool false, .ref s.heap.objs.size, rawInt 0, .none, .none] }) = big
  have ie : IsEnum big (s.heap.objs.size + 1) s.heap.objs.size 0 .none := by
    have z := Heap.get?_push_size (s.heap.push ob) (o := { cls := .type "enumerate", data := .fields #[.none, .bool false, .ref s.heap.objs.size, rawInt 0, .none, .none] }) rfl
    rw [sz, hb] at z
    exact z
  subst hb
  exact ⟨⟨_, ie, rfl⟩, q _ ie (Heap.get?_push_of_some _ (Heap.get?_push_size _ B.free)) fun b u y => Heap.get?_push_of_some _ (Heap.get?_push_of_some _ y)⟩
end
/-- the tuple at a, each item in a new pair -/
def IteT (K : PySem.W.Frag) (a : Addr) : It :=
  ⟨fun i H => ∃ (ys : List V) (y : V), SqT K H a ys ∧ ys[i]? = some y, fun i H v H' => ∃ T y, v = .ref T ∧ H T = none ∧ H' = upd H T (.tup [.int (i : Nat), y]) ∧ ∀ ys, SqT K H a ys → ys[i]? = some y, fun i H => ∃ ys : List V, SqT K H a ys ∧ ys.length = i⟩
theorem tupIt_ne {h : Heap} {it a : Addr} {i : Nat} {items : Array Value} (x : h.IsTupleIter it a i) (y : h.IsTuple a items) : a ≠ it := fun z => by
  obtain ⟨o, e1, e2, _⟩ := x
  obtain ⟨o', f1, f2, _⟩ := y
  rw [z, e1] at f1
  cases f1
  rw [e2] at f2
  exact absurd f2 (by decide)
theorem enum_ne {h : Heap} {e it a : Addr} {i : Int} {u : Value} {items : Array Value} (x : IsEnum h e it i u) (y : h.IsTuple a items) : e ≠ a := fun z => by
  obtain ⟨o', f1, f2, _⟩ := y
  have x' : h.get? e = some _ := x
  rw [z, f1] at x'
  cases x'
  exact absurd (show Value.type "enumerate" = Value.type "tuple" from f2) (by decide)
theorem turn_enumT {P : Program} {w : World} {K : PySem.W.Frag} {elts : List Expr} {kk : Nat} {tpos : Pos} (a e it : Addr) :
    Turn P w K (.Tuple elts kk tpos) (IteT K a) [e, it] e (fun i h => (∃ u, IsEnum h e it ((i : Nat) : Int) u) ∧ h.IsTupleIter it a i ∧ e ≠ it) where
  mem := List.mem_cons_self ..
  obj := fun i h st b hb => by
    obtain ⟨⟨u, he⟩, ⟨o, ho, hc, hd⟩, _⟩ := st
    rcases List.mem_cons.mp hb with z | z
    · subst z; exact ⟨_, he, fun v q => nomatch q⟩
    · rw [List.mem_singleton.mp z]; exact ⟨o, ho, fun v q => by rw [hd] at q; cases q⟩
  keep := fun i h h' st k => ⟨st.1.elim fun u he => ⟨u, k e (List.mem_cons_self ..) _ he⟩, st.2.1.at fun o q => k it (by simp) o q, st.2.2⟩
  item := by
    intro X hP hw hK hc i pins s σ H E I hf st hg
    subst hP hw hK
    obtain ⟨⟨u0, he⟩, hit, hne⟩ := st
    obtain ⟨ys, y, hq, hy⟩ := hg
    obtain ⟨its, rv, ht, _⟩ := I.tuple hq
    have ht : s.heap.IsTuple a its.toArray := ht
    obtain ⟨uy, hu, ru⟩ := rv.get hy
    have ane := tupIt_ne hit ht
    have ene := enum_ne he ht
    have szE : e < s.heap.objs.size := Heap.lt_size he
    have szI : it < s.heap.objs.size := by obtain ⟨_, q, _⟩ := hit; exact Heap.lt_size q
    have small : i < its.toArray.size := by
      have := (List.getElem?_eq_some_iff.mp hu).1
      simpa using this
    refine wpAny_pyNext_enum_itemD (Draws.tuple (A := X.A.in1) (I.ok.hd hc) it a ane its.toArray) he ⟨hit, ht⟩ small hne (by simp [hne, ene]) fun x h1 tk hx ho hst hT hsz hk => ?_
    have ex : x = uy := by
      have hu' : its.toArray[i]? = some uy := by simpa using hu
      rw [hu'] at hx
      exact (Option.some.inj hx).symm
    subst ex
    refine ⟨_, rfl, wpAny_letOwnedTupleGo_enum (s := { s with heap := h1, toks := tk + 1 }) ho fun h2 he2 sb => ?_⟩
    have far : s.heap.objs.size ≠ e := Nat.ne_of_gt szE
    have hT2 : h2.get? s.heap.objs.size = some { cls := .type "tuple", data := .seq #[.int i tk, x] } := (sb.2 _ far).trans hT
    have made : ObjOk X.prog X.w (upd H s.heap.objs.size (.tup [.int (i : Nat), y])) h2 s.heap.objs.size (.tup [.int (i : Nat), y]) :=
      ⟨(by decide : (2 : Nat) ≤ sizeLine), [.int i tk, x], .cons ⟨_, rfl⟩ (.cons ru .nil), ⟨_, hT2, rfl, _, rfl⟩⟩
    have J : Inv X pins σ (upd H s.heap.objs.size (.tup [.int (i : Nat), y])) { s with heap := h2, toks := tk + 1 } := by
      refine I.turnedNew (ch := [e, it]) (fun b ob hb q => ?_) hf (Nat.le_refl _) made
      have n1 : b ≠ e := fun z => hb (by simp [z])
      have n2 : b ≠ it := fun z => hb (by simp [z])
      exact (sb.2 b n1).trans (hk b ob n1 n2 q)
    refine ⟨.ref s.heap.objs.size, _, J, rfl, ⟨_, y, rfl, I.hok.fresh (Nat.le_refl _), rfl, fun zs hz => by rw [I.tuple_inj hz hq]; exact hy⟩, ⟨⟨x, ?_⟩, hst.1.at fun o q => (sb.2 it (Ne.symm hne)).trans q, hne⟩, fun b hb => ?_⟩
    · rw [show ((i + 1 : Nat) : Int) = (i : Int) + 1 from by omega]
      exact he2
    · have lt : b < s.heap.objs.size := by
        rcases List.mem_cons.mp hb with z | z
        · rw [z]; exact szE
        · rw [List.mem_singleton.mp z]; exact szI
      rw [upd_ne (Nat.ne_of_lt lt)]
      exact (hf b hb).1
  done := by
    intro X hP hw hK hc i pins s σ H E I hf st hg
    subst hP hw hK
    obtain ⟨⟨u0, he⟩, hit, hne⟩ := st
    obtain ⟨ys, hq, hy⟩ := hg
    obtain ⟨its, rv, ht, _⟩ := I.tuple hq
    have ht : s.heap.IsTuple a its.toArray := ht
    obtain ⟨f0, f1, f2, f3, f4, f5⟩ := hf it (by simp)
    have ane := tupIt_ne hit ht
    have hi : i = its.toArray.size := by rw [List.size_toArray, ← rv.length, hy]
    subst hi
    exact wpAny_pyNext_enum_endD (Draws.tuple (A := X.A.in1) (I.ok.hd hc) it a ane its.toArray) he ⟨hit, ht⟩ fun h1 eb => ⟨rfl, I.turned (t' := s.toks) (fun b o hb q => eb b o hb q) f0 f1 f3 f4 f5⟩
  self := fun A i s Q E st h => st.1.elim fun _ he => wpAny_pyIter_enum he h

def iEnumA (K : PySem.W.Frag) (ta : TA) : TI := fun σ H R => ta σ H fun vs H1 => ∃ a xs, vs = [.ref a] ∧ ((SqL K H1 a xs ∧ R (Ite K a) H1) ∨ (SqT K H1 a xs ∧ R (IteT K a) H1))
theorem pi_enumA {X : Cx} {e : Expr} {ta : TA} {p pos tpos : Pos} {elts : List Expr} {kk : Nat} (hg : Gl X "enumerate") (hm : X.mg "enumerate" = none) (ha : PA X [e] ta) (hs : starEach [e] X.env = [(false, eval e X.env)]) :
    PI X (.Tuple elts kk tpos) (.Call (.Name "enumerate" p) [e] [] pos) (iEnumA X.K ta) := by
  refine ⟨fun pins s σ H R I h => ?_⟩
  refine Call_ (ld_blt I hg hm boot_enumerate (PyProof.Rows.callWith_type1 (thn (ha.run pos pins s σ H _ I h) fun us s1 ⟨vs, H1, I1, r1, q1⟩ => ?_) hs rfl))
  obtain ⟨a, xs, ex, q1⟩ := q1
  subst ex
  cases r1 with
  | cons r rr =>
    cases rr
    cases r
    have fresh2 : ∀ b, b ∈ [s1.heap.objs.size + 1, s1.heap.objs.size] → FpOk X pins H1 b := fun b hb => by
      have le : s1.heap.objs.size ≤ b := by
        rcases List.mem_cons.mp hb with z | z
        · rw [z]; exact Nat.le_add_right _ _
        · rw [List.mem_singleton.mp z]; exact Nat.le_refl _
      exact I1.fpOk le (I1.hok.fresh le)
    rcases q1 with ⟨hq, q⟩ | ⟨hq, q⟩
    · obtain ⟨its, rv, pl, _⟩ := I1.list hq
      refine call_enumerate_list pl.isList fun h' he hit hsz hk => wpAny_pyIter_enum he ?_
      exact ⟨s1.heap.objs.size + 1, [s1.heap.objs.size + 1, s1.heap.objs.size], _, _, H1, rfl, I1.kept (t' := s1.toks) hk, turn_enum a (s1.heap.objs.size + 1) s1.heap.objs.size, ⟨⟨.none, he⟩, hit, Nat.succ_ne_self _⟩, fresh2, q⟩
    · obtain ⟨its, rv, pt, _⟩ := I1.tuple hq
      refine enum_made (begins_tuple a its.toArray) (show s1.heap.IsTuple a its.toArray from pt) fun h' he hit hk => wpAny_pyIter_enum he ?_
      exact ⟨s1.heap.objs.size + 1, [s1.heap.objs.size + 1, s1.heap.objs.size], _, _, H1, rfl, I1.kept (t' := s1.toks) hk, turn_enumT a (s1.heap.objs.size + 1) s1.heap.objs.size, ⟨⟨.none, he⟩, ⟨_, hit, rfl, rfl⟩, Nat.succ_ne_self _⟩, fresh2, q⟩

/-! ### what is gone through, by values -/
/-- an item as it comes -/
inductive Yi (L : Pl) (m : List Addr) (H0 : Hp) (H : Hp) : D → V → Hp → Prop
  | one {d : D} {x : V} : Rp L.K L.fa m H0 d x → Yi L m H0 H d x H
  | two {d1 d2 : D} {x1 x2 : V} {T : Addr} : H T = none → Rp L.K L.fa m H0 d1 x1 → Rp L.K L.fa m H0 d2 x2 → Yi L m H0 H (.tup [d1, d2]) (.ref T) (upd H T (.tup [x1, x2]))
structure Yl (L : Pl) (m : List Addr) (H0 : Hp) (ds : List D) (J : It) : Prop where
  go : ∀ m' H, Gr m H0 m' H → ∀ i d, ds[i]? = some d → J.go i H ∧ ∀ x H', J.yld i H x H' → Yi L m H0 H d x H'
  stop : ∀ m' H, Gr m H0 m' H → J.stop ds.length H
abbrev RdI (L : Pl) (W : WX) (f : Env → Store → Res (List D)) : TI := Rd L (fun m H ds J => Yl L m H ds J ∧ ds.length ≤ LINE) W f
section
variable {X : Cx} {L : Pl} {m m' : List Addr} {H0 H : Hp} {S : Store}
theorem gr_sqT {K : PySem.W.Frag} {fa : Nat → Option Addr} (g : Gr m H0 m' H) (rs : RS K fa m S H0) {a : Addr} {vs : List V} (h : SqT K H0 a vs) : SqT K H a vs := g.sqT rs h
theorem gr_lst {K : PySem.W.Frag} (g : Gr m H0 m' H) {a : Addr} {vs : List V} (h : H0 a = some (.lst vs)) (n : a ∉ m) : SqL K H a vs := .inl (.inl (g.keep a _ h n))
theorem yl_tup {ds : List D} {a : Addr} {vs : List V} (rs : RS L.K L.fa m S H0) (h : SqT L.K H0 a vs) (r : RpL L.K L.fa m H0 ds vs) : Yl L m H0 ds (Itt L.K a) := by
  refine ⟨fun m' H g i d e => ?_, fun m' H g => ⟨vs, g.sqT rs h, by rw [r.length]; exact Nat.le_refl _⟩⟩
  obtain ⟨x, ex, rx⟩ := r.get e
  refine ⟨⟨vs, x, g.sqT rs h, ex⟩, fun y H' ⟨e1, e2⟩ => ?_⟩
  have := e2 vs (g.sqT rs h)
  rw [ex] at this
  cases this
  subst e1
  exact .one rx
theorem yl_sq {ds : List D} {a : Addr} {vs : List V} (h : ∀ m' H, Gr m H0 m' H → SqL L.K H a vs) (r : RpL L.K L.fa m H0 ds vs) : Yl L m H0 ds (Itl L.K a) := by
  refine ⟨fun m' H g i d e => ?_, fun m' H g => ⟨vs, h m' H g, by rw [r.length]; exact Nat.le_refl _⟩⟩
  obtain ⟨x, ex, rx⟩ := r.get e
  refine ⟨⟨vs, x, h m' H g, ex⟩, fun y H' ⟨e1, e2⟩ => ?_⟩
  have := e2 vs (h m' H g)
  rw [ex] at this
  cases this
  subst e1
  exact .one rx
theorem yl_str {x : Str} : Yl L m H0 (x.cps.toList.map fun k => .str ⟨#[k]⟩) (Its x) := by
  refine ⟨fun m' H g i d e => ?_, fun m' H g => by show x.cps.size ≤ _; simp⟩
  rw [List.getElem?_map] at e
  cases q : x.cps.toList[i]? with
  | none => rw [q] at e; cases e
  | some k =>
    rw [q] at e
    cases e
    have q' : x.cps[i]? = some k := by simpa using q
    refine ⟨(Array.getElem?_eq_some_iff.mp q').1, fun y H' ⟨e1, c, e2, e3⟩ => ?_⟩
    rw [q'] at e2
    cases e2
    subst e1 e3
    exact .one (.c (.str ⟨#[k]⟩))
theorem rngN_at (lo c : Int) : ∀ (n i : Nat), (rngN lo c n)[i]? = if i < n then some (.int (lo + i * c)) else none
  | 0, i => by simp [rngN]
  | n + 1, 0 => by simp [rngN]
  | n + 1, i + 1 => by
    simp only [rngN, List.getElem?_cons_succ]
    rw [rngN_at (lo + c) c n i]
    by_cases h : i < n
    · rw [if_pos h, if_pos (by omega)]
      have z : lo + c + (i : Int) * c = lo + ((i + 1 : Nat) : Int) * c := by
        rw [show ((i + 1 : Nat) : Int) = (i : Int) + 1 from by omega, Int.add_mul, Int.one_mul]
        omega
      rw [z]
    · rw [if_neg h, if_neg (by omega)]
theorem rngN_len (lo c : Int) : ∀ n, (rngN lo c n).length = n
  | 0 => rfl
  | n + 1 => by simp [rngN, rngN_len (lo + c) c n]
theorem yl_rngC {lo c : Int} {n : Nat} : Yl L m H0 (rngN lo c n) (Itc lo c n) := by
  refine ⟨fun m' H g i d e => ?_, fun m' H g => by show n ≤ _; rw [rngN_len]; exact Nat.le_refl _⟩
  rw [rngN_at] at e
  split at e
  · rename_i hi
    cases e
    refine ⟨hi, fun y H' ⟨e1, e2⟩ => ?_⟩
    subst e1 e2
    exact .one (.c (.int _))
  · cases e
theorem yl_rng {lo : Int} {n : Nat} : Yl L m H0 (rngN lo 1 n) (Itr lo n) := by
  refine ⟨fun m' H g i d e => ?_, fun m' H g => by show n ≤ _; rw [rngN_len]; exact Nat.le_refl _⟩
  rw [rngN_at] at e
  split at e
  · rename_i hi
    cases e
    refine ⟨hi, fun y H' ⟨e1, e2⟩ => ?_⟩
    subst e1 e2
    rw [Int.mul_one]
    exact .one (.c (.int _))
  · cases e
theorem enumD_at : ∀ (ds : List D) (k i : Nat), (enumD k ds)[i]? = (ds[i]?).map fun d => .tup [.int ((k + i : Nat) : Int), d]
  | [], k, i => by simp [enumD]
  | d :: ds, k, 0 => by simp [enumD]
  | d :: ds, k, i + 1 => by
    simp only [enumD, List.getElem?_cons_succ]
    rw [enumD_at ds (k + 1) i, show k + 1 + i = k + (i + 1) from by omega]
theorem enumD_len : ∀ (ds : List D) (k : Nat), (enumD k ds).length = ds.length
  | [], _ => rfl
  | d :: ds, k => by simp [enumD, enumD_len ds (k + 1)]
theorem yl_enumL {ds : List D} {a : Addr} {vs : List V} (h : ∀ m' H, Gr m H0 m' H → SqL L.K H a vs) (r : RpL L.K L.fa m H0 ds vs) : Yl L m H0 (enumD 0 ds) (Ite L.K a) := by
  refine ⟨fun m' H g i d e => ?_, fun m' H g => ⟨vs, h m' H g, by rw [enumD_len, r.length]; exact Nat.le_refl _⟩⟩
  rw [enumD_at] at e
  obtain ⟨d', e', rfl⟩ := Option.map_eq_some_iff.mp e
  obtain ⟨x, ex, rx⟩ := r.get e'
  refine ⟨⟨vs, x, h m' H g, ex⟩, fun y H' ⟨T, z, e1, e2, e3, e4⟩ => ?_⟩
  have := e4 vs (h m' H g)
  rw [ex] at this
  cases this
  subst e1 e3
  rw [Nat.zero_add]
  exact .two e2 (.c (.int _)) rx
theorem yl_enumT {ds : List D} {a : Addr} {vs : List V} (rs : RS L.K L.fa m S H0) (h : SqT L.K H0 a vs) (r : RpL L.K L.fa m H0 ds vs) : Yl L m H0 (enumD 0 ds) (IteT L.K a) := by
  refine ⟨fun m' H g i d e => ?_, fun m' H g => ⟨vs, g.sqT rs h, by rw [enumD_len, r.length]⟩⟩
  rw [enumD_at] at e
  obtain ⟨d', e', rfl⟩ := Option.map_eq_some_iff.mp e
  obtain ⟨x, ex, rx⟩ := r.get e'
  refine ⟨⟨vs, x, g.sqT rs h, ex⟩, fun y H' ⟨T, z, e1, e2, e3, e4⟩ => ?_⟩
  have := e4 vs (g.sqT rs h)
  rw [ex] at this
  cases this
  subst e1 e3
  rw [Nat.zero_add]
  exact .two e2 (.c (.int _)) rx
theorem zipD_at : ∀ (xs ys : List D) (i : Nat) (d : D), (zipD xs ys)[i]? = some d → ∃ x y, xs[i]? = some x ∧ ys[i]? = some y ∧ d = .tup [x, y]
  | [], _, _, _, h => by simp [zipD] at h
  | _ :: _, [], _, _, h => by simp [zipD] at h
  | x :: xs, y :: ys, 0, d, h => by simp [zipD] at h; exact ⟨x, y, rfl, rfl, h.symm⟩
  | x :: xs, y :: ys, i + 1, d, h => by
    simp only [zipD, List.getElem?_cons_succ] at h
    obtain ⟨u, v, h1, h2, h3⟩ := zipD_at xs ys i d h
    exact ⟨u, v, by simpa using h1, by simpa using h2, h3⟩
theorem zipD_len : ∀ (xs ys : List D), xs.length ≤ (zipD xs ys).length ∨ ys.length ≤ (zipD xs ys).length
  | [], _ => .inl (Nat.zero_le _)
  | _ :: _, [] => .inr (Nat.zero_le _)
  | x :: xs, y :: ys => by
    simp only [zipD, List.length_cons]
    rcases zipD_len xs ys with h | h
    · exact .inl (by omega)
    · exact .inr (by omega)
theorem yl_zipL {ds es : List D} {a b : Addr} {vs ws : List V} (h : ∀ m' H, Gr m H0 m' H → SqL L.K H a vs) (h2 : ∀ m' H, Gr m H0 m' H → SqL L.K H b ws) (r : RpL L.K L.fa m H0 ds vs) (r2 : RpL L.K L.fa m H0 es ws) : Yl L m H0 (zipD ds es) (Itz L.K a b) := by
  refine ⟨fun m' H g i d e => ?_, fun m' H g => ⟨vs, ws, h m' H g, h2 m' H g, by rw [← r.length, ← r2.length]; exact zipD_len ds es⟩⟩
  obtain ⟨d1, d2, e1, e2, rfl⟩ := zipD_at _ _ _ _ e
  obtain ⟨x, ex, rx⟩ := r.get e1
  obtain ⟨y, ey, ry⟩ := r2.get e2
  refine ⟨⟨vs, ws, x, y, h m' H g, h2 m' H g, ex, ey⟩, fun u H' ⟨T, z1, z2, q1, q2, q3, q4, q5⟩ => ?_⟩
  have c1 := q4 vs (h m' H g)
  have c2 := q5 ws (h2 m' H g)
  rw [ex] at c1
  rw [ey] at c2
  cases c1
  cases c2
  subst q1 q3
  exact .two q2 rx ry
theorem yl_zipT {ds es : List D} {a b : Addr} {vs ws : List V} (rs : RS L.K L.fa m S H0) (h : SqT L.K H0 a vs) (h2 : SqT L.K H0 b ws) (r : RpL L.K L.fa m H0 ds vs) (r2 : RpL L.K L.fa m H0 es ws) : Yl L m H0 (zipD ds es) (RZ.ItzT L.K a b) := by
  refine ⟨fun m' H g i d e => ?_, fun m' H g => ⟨vs, ws, g.sqT rs h, g.sqT rs h2, by rw [← r.length, ← r2.length]; exact zipD_len ds es⟩⟩
  obtain ⟨d1, d2, e1, e2, rfl⟩ := zipD_at _ _ _ _ e
  obtain ⟨x, ex, rx⟩ := r.get e1
  obtain ⟨y, ey, ry⟩ := r2.get e2
  refine ⟨⟨vs, ws, x, y, g.sqT rs h, g.sqT rs h2, ex, ey⟩, fun u H' ⟨T, z1, z2, q1, q2, q3, q4, q5⟩ => ?_⟩
  have c1 := q4 vs (g.sqT rs h)
  have c2 := q5 ws (g.sqT rs h2)
  rw [ex] at c1
  rw [ey] at c2
  cases c1
  cases c2
  subst q1 q3
  exact .two q2 rx ry
theorem zipD_le : ∀ (xs ys : List D), (zipD xs ys).length ≤ xs.length
  | [], _ => Nat.zero_le _
  | _ :: _, [] => Nat.zero_le _
  | x :: xs, y :: ys => by
    simp only [zipD, List.length_cons]
    have := zipD_le xs ys
    omega
theorem le_line {ds : List D} {vs : List V} (z : vs.length ≤ sizeLine) (l : RpL L.K L.fa m H0 ds vs) : ds.length ≤ LINE := by
  rw [l.length]
  exact z
end
end Rf

set_option Elab.async false
set_option maxRecDepth 100000
set_option maxHeartbeats 1000000
/-! Rf, part I: what is gone through; lists made by turns. -/
namespace Rf
open PySem PySem.Spec PyProof.Rows L2

section
variable {X : Cx} {L : Pl} {N : List Str} {sc : Scope} {W : WX} {k : Nat} {Tb : Tabs} {G : Nat → Option D} {F : Cl} {tg : Expr}
theorem pi_or {e : Expr} {t u : TI} (h1 : PI X tg e t) (h2 : PI X tg e u) : PI X tg e (fun σ H R => t σ H R ∨ u σ H R) :=
  ⟨fun pins s σ H R I h => h.elim (h1.run pins s σ H R I) (h2.run pins s σ H R I)⟩
theorem pi_weak {e : Expr} {t u : TI} (h1 : PI X tg e t) (h : ∀ σ H R, u σ H R → t σ H R) : PI X tg e u :=
  ⟨fun pins s σ H R I q => h1.run pins s σ H R I (h _ _ _ q)⟩
theorem fz_yl {a : Addr} {vs : List V} {m : List Addr} {H0 : Hp} {S : Store} (rs : RS L.K L.fa m S H0) (h : FzL L.K L.fa H0 a vs) : ∀ m' H, Gr m H0 m' H → SqL L.K H a vs := fun m' H g => (g.fz rs h).sq
variable (g : Good X L N sc W)
include g
theorem i_seq {a : Tm} {e : Expr} (ha : PE X e (RdE L W (ev G F a))) : PI X tg e (RdI L W (evi G F (.seq a))) := by
  refine pi_weak (pi_or (pi_or (pi_tup ha) (pi_list ha)) (pi_str ha)) fun τ H R ⟨σ, S, m, rs, re, p⟩ => ?_
  simp only [evi] at p
  cases ea : ev G F a σ S with
  | ok d S1 =>
    rw [ea, bind_ok] at p
    obtain ⟨its, e1, q⟩ := p.lift
    cases d with
    | tup xs =>
      cases e1
      refine .inl (.inl ⟨σ, S, m, rs, re, ?_⟩)
      rw [ea]
      intro v m' H' g1 rs1 r
      cases r with
      | tup h z l => exact ⟨_, rfl, ⟨_, by rw [g.hL]; exact h⟩, q _ m' H' g1 rs1 ⟨by rw [g.hL]; exact yl_tup rs1 h l, le_line z l⟩⟩
    | lst xs =>
      cases e1
      refine .inl (.inr ⟨σ, S, m, rs, re, ?_⟩)
      rw [ea]
      intro v m' H' g1 rs1 r
      cases r with
      | lst h n z l => exact ⟨_, rfl, ⟨_, .inl (.inl h)⟩, q _ m' H' g1 rs1 ⟨by rw [g.hL]; exact yl_sq (fun _ _ g2 => gr_lst g2 h n) l, le_line z l⟩⟩
    | fz xs =>
      cases e1
      refine .inl (.inr ⟨σ, S, m, rs, re, ?_⟩)
      rw [ea]
      intro v m' H' g1 rs1 r
      cases r with
      | fz h z l => exact ⟨_, rfl, ⟨_, by rw [g.hL]; exact h.sq⟩, q _ m' H' g1 rs1 ⟨by rw [g.hL]; exact yl_sq (fz_yl rs1 h) l, le_line z l⟩⟩
    | c k =>
      cases k with
      | str x =>
        simp only [itemsOf] at e1
        by_cases hx : x.length ≤ LINE
        · rw [if_pos hx] at e1
          obtain rfl := Option.some.inj e1
          refine .inr ⟨σ, S, m, rs, re, ?_⟩
          rw [ea]
          intro v m' H' g1 rs1 r
          cases r
          exact ⟨x, rfl, q _ m' H' g1 rs1 ⟨yl_str, by rw [List.length_map, Array.length_toList]; exact hx⟩⟩
        · rw [if_neg hx] at e1
          cases e1
      | _ => cases e1
    | _ => cases e1
  | ex x S1 =>
    rw [ea] at p
    refine .inl (.inl ⟨σ, S, m, rs, re, ?_⟩)
    rw [ea]
    exact p
  | bad =>
    rw [ea] at p
    exact p.elim
theorem i_enum {as : Tms} {e : Expr} {p pos tpos : Pos} {elts : List Expr} {kk : Nat} (M : ModOk X L Tb G) (h : freeB Tb sc "enumerate" = true) (hs : notStar e = true) (ha : PA X [e] (RdA L W (evs G F as))) :
    PI X (.Tuple elts kk tpos) (.Call (.Name "enumerate" p) [e] [] pos) (RdI L W (evi G F (.enum as))) := by
  obtain ⟨h1, h2, h3, h4⟩ := freeB_ok g M h
  refine pi_weak (pi_enumA h1 h2 ha (star_cons hs)) fun τ H R ⟨σ, S, m, rs, re, p⟩ => ?_
  simp only [evi] at p
  refine ⟨σ, S, m, rs, re, (Pst.bind p).imp fun vs H1 ⟨ds, S1, m1, g1, rs1, rl, p1⟩ => ?_⟩
  obtain ⟨its, e1, q⟩ := p1.lift
  unfold enumI at e1
  split at e1
  · cases e1
    cases rl with
    | cons r rr =>
      cases rr
      cases r with
      | tup h z l => exact ⟨_, _, rfl, .inr ⟨by rw [g.hL]; exact h, q _ m1 H1 (.refl _ _) rs1 ⟨by rw [g.hL]; exact yl_enumT rs1 h l, by rw [enumD_len]; exact le_line z l⟩⟩⟩
  · cases e1
    cases rl with
    | cons r rr =>
      cases rr
      cases r with
      | lst h n z l => exact ⟨_, _, rfl, .inl ⟨.inl (.inl h), q _ m1 H1 (.refl _ _) rs1 ⟨by rw [g.hL]; exact yl_enumL (fun _ _ g2 => gr_lst g2 h n) l, by rw [enumD_len]; exact le_line z l⟩⟩⟩
  · cases e1
theorem i_zip {as : Tms} {e e2 : Expr} {p pos tpos : Pos} {elts : List Expr} {kk : Nat} (M : ModOk X L Tb G) (h : freeB Tb sc "zip" = true) (hs : notStar e = true) (hs2 : notStar e2 = true) (ha : PA X [e, e2] (RdA L W (evs G F as))) :
    PI X (.Tuple elts kk tpos) (.Call (.Name "zip" p) [e, e2] [] pos) (RdI L W (evi G F (.zip as))) := by
  obtain ⟨h1, h2, h3, h4⟩ := freeB_ok g M h
  refine pi_weak (RZ.pi_zipA h1 h2 ha (star_cons hs) (plain_args (es := [e2]) (by simp [hs2]))) fun τ H R ⟨σ, S, m, rs, re, p⟩ => ?_
  simp only [evi] at p
  refine ⟨σ, S, m, rs, re, (Pst.bind p).imp fun vs H1 ⟨ds, S1, m1, g1, rs1, rl, p1⟩ => ?_⟩
  obtain ⟨its, e1, q⟩ := p1.lift
  unfold zipI at e1
  split at e1
  · cases e1
    cases rl with
    | cons r rr =>
      cases rr with
      | cons r2 rr =>
        cases rr
        cases r with
        | tup h z l =>
          cases r2 with
          | tup h' z' l' => exact ⟨_, _, _, _, rfl, .inr ⟨by rw [g.hL]; exact h, by rw [g.hL]; exact h', q _ m1 H1 (.refl _ _) rs1 ⟨by rw [g.hL]; exact yl_zipT rs1 h h' l l', Nat.le_trans (zipD_le _ _) (le_line z l)⟩⟩⟩
  · cases e1
    cases rl with
    | cons r rr =>
      cases rr with
      | cons r2 rr =>
        cases rr
        cases r with
        | lst h n z l =>
          cases r2 with
          | lst h' n' z' l' => exact ⟨_, _, _, _, rfl, .inl ⟨.inl (.inl h), .inl (.inl h'), q _ m1 H1 (.refl _ _) rs1 ⟨by rw [g.hL]; exact yl_zipL (fun _ _ g2 => gr_lst g2 h n) (fun _ _ g2 => gr_lst g2 h' n') l l', Nat.le_trans (zipD_le _ _) (le_line z l)⟩⟩⟩
  · cases e1
omit g in
theorem small62_ok {i : Int} (h : small62 i = true) : -(2 ^ 62) ≤ i ∧ i < 2 ^ 62 := by
  unfold small62 at h
  simpa using h
theorem i_rng1 {as : Tms} {e : Expr} {p pos : Pos} (M : ModOk X L Tb G) (h : freeB Tb sc "range" = true) (hk : chks Tb N sc as [e] = true) (hs : notStar e = true) (ha : PA X [e] (RdA L W (evs G F as))) :
    PI X tg (.Call (.Name "range" p) [e] [] pos) (RdI L W (evi G F (.rng as))) := by
  obtain ⟨h1, h2, h3, h4⟩ := freeB_ok g M h
  refine pi_weak (pi_range1 h1 h2 ha (star_cons hs)) fun τ H R ⟨σ, S, m, rs, re, p⟩ => ?_
  simp only [evi] at p
  refine ⟨σ, S, m, rs, re, ?_⟩
  cases ee : evs G F as σ S with
  | ok ds S1 =>
    rw [ee, bind_ok] at p
    intro vs m1 H1 g1 rs1 rl
    have hl := evs_len hk ee
    obtain ⟨its, e1, q⟩ := p.lift
    unfold rngI at e1
    split at e1
    · split at e1
      · rename_i j hj
        cases e1
        cases rl with
        | cons r rr =>
          cases rr
          cases r
          obtain ⟨b1, b2⟩ := small62_ok hj.1
          exact ⟨j, rfl, b1, b2, q _ m1 H1 g1 rs1 ⟨yl_rng, by rw [rngN_len]; exact Int.toNat_le.mpr hj.2⟩⟩
      · cases e1
    · simp at hl
    · simp at hl
    · cases e1
  | ex x S1 => rw [ee] at p; exact p
  | bad => rw [ee] at p; exact p
theorem i_rng2 {as : Tms} {e e2 : Expr} {p pos : Pos} (M : ModOk X L Tb G) (h : freeB Tb sc "range" = true) (hk : chks Tb N sc as [e, e2] = true) (hs : notStar e = true) (hs2 : notStar e2 = true) (ha : PA X [e, e2] (RdA L W (evs G F as))) :
    PI X tg (.Call (.Name "range" p) [e, e2] [] pos) (RdI L W (evi G F (.rng as))) := by
  obtain ⟨h1, h2, h3, h4⟩ := freeB_ok g M h
  refine pi_weak (pi_range2 h1 h2 ha (by rw [star_cons hs, star_cons hs2]; rfl) (star_cons hs2)) fun τ H R ⟨σ, S, m, rs, re, p⟩ => ?_
  simp only [evi] at p
  refine ⟨σ, S, m, rs, re, ?_⟩
  cases ee : evs G F as σ S with
  | ok ds S1 =>
    rw [ee, bind_ok] at p
    intro vs m1 H1 g1 rs1 rl
    have hl := evs_len hk ee
    obtain ⟨its, e1, q⟩ := p.lift
    unfold rngI at e1
    split at e1
    · simp at hl
    · split at e1
      · rename_i i j hj
        cases e1
        cases rl with
        | cons r rr =>
          cases rr with
          | cons r2 rr =>
            cases rr
            cases r
            cases r2
            have hj1 := bA hj.1
            obtain ⟨b1, b2⟩ := small62_ok hj1.1
            obtain ⟨b3, b4⟩ := small62_ok hj1.2
            exact ⟨i, j, rfl, ⟨b1, b2, b3, b4⟩, q _ m1 H1 g1 rs1 ⟨yl_rng, by rw [rngN_len]; exact Int.toNat_le.mpr hj.2⟩⟩
      · cases e1
    · simp at hl
    · cases e1
  | ex x S1 => rw [ee] at p; exact p
  | bad => rw [ee] at p; exact p
omit g in
theorem rgC_ok {i j k : Int} (h1 : small62 i = true) (h2 : small62 j = true) (h3 : 0 < k) (h4 : k < 1073741824) : RgC i j k (rngC i j k) := by
  obtain ⟨a1, a2⟩ := small62_ok h1
  obtain ⟨b1, b2⟩ := small62_ok h2
  have eq : Builtin.Range.rangeSize i j k = if i < j then (j - i - 1) / k + 1 else 0 := by
    unfold Builtin.Range.rangeSize
    rw [if_pos (by omega)]
  have up : i < j → 0 ≤ (j - i - 1) / k ∧ (j - i - 1) / k ≤ j - i - 1 := fun h =>
    ⟨Int.ediv_nonneg (by omega) (by omega), Int.ediv_le_self _ (by omega)⟩
  refine ⟨by omega, by omega, ?_, ?_⟩
  · unfold Builtin.Range.small
    rw [eq]
    simp only [Builtin.Range.rangeFitsLong, Bool.and_eq_true, Bool.or_eq_true, decide_eq_true_eq, beq_iff_eq]
    rw [if_pos (by omega : k > 0)]
    simp only [Bool.and_eq_true, decide_eq_true_eq]
    by_cases hij : i < j
    · have := up hij
      rw [if_pos hij]
      omega
    · rw [if_neg hij]
      omega
  · rw [eq]
    unfold rngC
    by_cases hij : i < j
    · have := up hij
      rw [if_pos hij, if_pos hij]
      omega
    · rw [if_neg hij, if_neg hij]
      rfl
theorem i_rng3 {as : Tms} {e e2 e3 : Expr} {p pos : Pos} (M : ModOk X L Tb G) (h : freeB Tb sc "range" = true) (hk : chks Tb N sc as [e, e2, e3] = true) (hs : notStar e = true) (hs2 : notStar e2 = true) (hs3 : notStar e3 = true) (ha : PA X [e, e2, e3] (RdA L W (evs G F as))) :
    PI X tg (.Call (.Name "range" p) [e, e2, e3] [] pos) (RdI L W (evi G F (.rng as))) := by
  obtain ⟨h1, h2, h3, h4⟩ := freeB_ok g M h
  refine pi_weak (pi_range3 h1 h2 ha (star_cons hs) (plain_args (es := [e2, e3]) (by simp [hs2, hs3]))) fun τ H R ⟨σ, S, m, rs, re, p⟩ => ?_
  simp only [evi] at p
  refine ⟨σ, S, m, rs, re, ?_⟩
  cases ee : evs G F as σ S with
  | ok ds S1 =>
    rw [ee, bind_ok] at p
    intro vs m1 H1 g1 rs1 rl
    have hl := evs_len hk ee
    obtain ⟨its, e1, q⟩ := p.lift
    unfold rngI at e1
    split at e1
    · simp at hl
    · simp at hl
    · split at e1
      · rename_i i j l hj
        cases e1
        cases rl with
        | cons r rr =>
          cases rr with
          | cons r2 rr =>
            cases rr with
            | cons r3 rr =>
              cases rr
              cases r
              cases r2
              cases r3
              have hj1 := bA hj.1
              exact ⟨i, j, l, _, rfl, rgC_ok hj1.1 hj1.2 hj.2.1 hj.2.2.1, q _ m1 H1 g1 rs1 ⟨yl_rngC, by rw [rngN_len]; exact hj.2.2.2⟩⟩
      · cases e1
    · cases e1
  | ex x S1 => rw [ee] at p; exact p
  | bad => rw [ee] at p; exact p
end
end Rf

set_option Elab.async false
set_option maxRecDepth 100000
set_option maxHeartbeats 1000000
/-! Rf, part J: lists made by turns. -/
namespace Rf
open PySem PySem.Spec PyProof.Rows L2

abbrev Dd := D
/-- the heap without D -/
def del (H : Hp) (D : Addr) : Hp := fun a => if a = D then none else H a
section
variable {H : Hp} {D a : Addr} {o : HO}
theorem del_same : del H D D = none := if_pos rfl
theorem del_ne (h : a ≠ D) : del H D a = H a := if_neg h
theorem del_some (h : del H D a = some o) : a ≠ D ∧ H a = some o := by
  unfold del at h
  split at h
  · cases h
  · rename_i n
    exact ⟨n, h⟩
theorem del_upd : del (upd H D o) D = del H D := by
  funext b
  unfold del upd
  split <;> rfl
theorem del_none (h : H D = none) : del H D = H := by
  funext b
  unfold del
  split
  · rename_i e; rw [e]; exact h.symm
  · rfl
theorem del_upd_ne (h : a ≠ D) : del (upd H a o) D = upd (del H D) a o := by
  funext b
  show (if b = D then none else if b = a then some o else H b) = if b = a then some o else if b = D then none else H b
  by_cases hb : b = a
  · rw [if_pos hb, if_pos hb, if_neg (hb ▸ h)]
  · rw [if_neg hb, if_neg hb]
end
section
variable {L : Pl} {m m' : List Addr} {H H' : Hp} {S : Store} {D : Addr}
/-- D put back, whatever stands there -/
theorem gr_back (hH : ∀ a, a ≠ D → H' a = H a) : Gr m (del H D) m H' :=
  ⟨List.prefix_refl _, fun a o h _ => by
    obtain ⟨n, e⟩ := del_some h
    rw [hH a n]; exact e, fun _ h h' => absurd h h'⟩
theorem rs_back (rs : RS L.K L.fa m S (del H D)) (hH : ∀ a, a ≠ D → H' a = H a) : RS L.K L.fa m S H' :=
  rs.keepAll (gr_back hH) fun a ha => by
    obtain ⟨o, e⟩ := rs.memSome ha
    obtain ⟨n, e2⟩ := del_some e
    rw [del_ne n, hH a n]
variable {od : Obj} {acc : List V} (hD : H D = some (.frz od (.lst acc))) (hs : ∀ a, L.fa SCR = some a → a ≠ D)
include hD hs
theorem sqT_del {a : Addr} {vs : List V} (h : SqT L.K H a vs) : SqT L.K (del H D) a vs := by
  rcases h with h | h
  · rcases h with h | ⟨o, h⟩
    · refine .inl (.inl ?_)
      rw [del_ne fun z => by rw [z, hD] at h; cases h]
      exact h
    · refine .inl (.inr ⟨o, ?_⟩)
      rw [del_ne fun z => by rw [z, hD] at h; cases h]
      exact h
  · exact .inr h
mutual
theorem rp_del : ∀ {d : Dd} {v : V}, Rp L.K L.fa m H d v → Rp L.K L.fa m (del H D) d v
  | _, _, .c k => .c k
  | _, _, .tup h z l => .tup (sqT_del hD hs h) z (rpL_del l)
  | _, _, .lst h n z l => .lst (by rw [del_ne fun q => by rw [q, hD] at h; cases h]; exact h) n z (rpL_del l)
  | _, _, .edc h n => .edc (by rw [del_ne fun q => by rw [q, hD] at h; cases h]; exact h) n
  | _, _, .fz h z l => .fz (by
    rcases h with ⟨e, o, h⟩ | h
    · exact .inl ⟨e, o, by rw [del_ne (hs _ e)]; exact h⟩
    · exact .inr h) z (rpL_del l)
  | _, _, .ptup h hd z l => .ptup (by
    rw [del_ne fun q => by rw [q, hD] at h; cases h]
    exact h) hd z (rpL_del l)
  | _, _, .ref h => .ref h
  | _, _, .fn h b => .fn h b
  | _, _, .ty n => .ty n
theorem rpL_del : ∀ {ds : List Dd} {vs : List V}, RpL L.K L.fa m H ds vs → RpL L.K L.fa m (del H D) ds vs
  | _, _, .nil => .nil
  | _, _, .cons h t => .cons (rp_del h) (rpL_del t)
end
theorem rs_del (rs : RS L.K L.fa m S H) : RS L.K L.fa m S (del H D) := by
  refine ⟨rs.len, rs.nd, fun i ob e => ?_⟩
  obtain ⟨a, o, h1, h2, h3⟩ := rs.at_ i ob e
  refine ⟨a, o, h1, ?_, ?_⟩
  · rw [del_ne fun q => ?_]
    · exact h2
    · rw [q, hD] at h2
      cases h2
      rcases h3.mut with ⟨_, z⟩ | ⟨_, z⟩ <;> cases z
  · cases ob with
    | lst ds => obtain ⟨vs, e, z, l⟩ := h3; exact ⟨vs, e, z, rpL_del hD hs l⟩
    | dct kvs => obtain ⟨ws, e, z, hk, l⟩ := h3; exact ⟨ws, e, z, hk, rpL_del hD hs l⟩
end
/-- a list in the making at D -/
structure Cs (L : Pl) (m1 : List Addr) (H1 : Hp) (D : Addr) (m : List Addr) (S : Store) (ys : List Dd) (acc : List V) (H : Hp) : Prop where
  at_ : H D = some (.lst acc)
  nin : D ∉ m
  gr : Gr m1 H1 m (del H D)
  rs : RS L.K L.fa m S (del H D)
  rl : RpL L.K L.fa m (del H D) ys acc
section
variable {L : Pl} {m1 m m2 : List Addr} {H1 H H2 : Hp} {D : Addr} {S S2 : Store} {ys : List Dd} {acc : List V}
/-- while it is locked something ran -/
theorem Cs.ran (c : Cs L m1 H1 D m S ys acc H) (hs : ∀ a, L.fa SCR = some a → a ≠ D) {od : Obj} (g : Gr m (upd H D (.frz od (.lst acc))) m2 H2) (rs : RS L.K L.fa m2 S2 H2) :
    H2 D = some (.frz od (.lst acc)) ∧ Gr m (del H D) m2 (del H2 D) ∧ Cs L m1 H1 D m2 S2 ys acc (upd H2 D (.lst acc)) := by
  have e2 : H2 D = some (.frz od (.lst acc)) := g.keep D _ upd_same c.nin
  have nD : D ∉ m2 := fun h => by
    have := g.new D h c.nin
    rw [upd_same] at this
    cases this
  have g2 : Gr m (del H D) m2 (del H2 D) := ⟨g.pre, fun a o h n => by
    obtain ⟨ne, e⟩ := del_some h
    rw [del_ne ne]
    exact g.keep a o (by rw [upd_ne ne]; exact e) n, fun a h n => by
    have z := g.new a h n
    have ne : a ≠ D := fun q => nD (q ▸ h)
    rw [upd_ne ne] at z
    rw [del_ne ne]
    exact z⟩
  refine ⟨e2, g2, upd_same, nD, ?_, ?_, ?_⟩
  · rw [del_upd]; exact c.gr.trans g2
  · rw [del_upd]; exact rs_del e2 hs rs
  · rw [del_upd]; exact c.rl.mono g2 c.rs
/-- a further item -/
theorem Cs.more (c : Cs L m1 H1 D m S ys acc H) {y : Dd} {v : V} (r : Rp L.K L.fa m (del H D) y v) : Cs L m1 H1 D m S (ys ++ [y]) (acc ++ [v]) (upd H D (.lst (acc ++ [v]))) :=
  ⟨upd_same, c.nin, by rw [del_upd]; exact c.gr, by rw [del_upd]; exact c.rs, by rw [del_upd]; exact c.rl.append (.cons r .nil)⟩
/-- an item comes -/
theorem Cs.item (c : Cs L m1 H1 D m S ys acc H) (rs1 : RS L.K L.fa m1 S2 H1) {d : Dd} {x : V} {H' : Hp} (y : Yi L m1 H1 H d x H') : Cs L m1 H1 D m S ys acc H' ∧ Gr m (del H D) m (del H' D) ∧ Rp L.K L.fa m (del H' D) d x := by
  cases y with
  | one r => exact ⟨c, .refl _ _, r.mono c.gr rs1⟩
  | @two d1 d2 x1 x2 T hT r1 r2 =>
    have ne : T ≠ D := fun z => by rw [z, c.at_] at hT; cases hT
    have hT' : del H D T = none := by rw [del_ne ne]; exact hT
    have g : Gr m (del H D) m (del (upd H T (.tup [x1, x2])) D) := by rw [del_upd_ne ne]; exact Gr.push hT'
    refine ⟨⟨by rw [upd_ne (Ne.symm ne)]; exact c.at_, c.nin, c.gr.trans g, by rw [del_upd_ne ne]; exact c.rs.push hT', c.rl.mono g c.rs⟩, g, .tup (.inl (.inl ?_)) (vs := [x1, x2]) (show (2 : Nat) ≤ sizeLine by decide) (.cons ((r1.mono c.gr rs1).mono g c.rs) (.cons ((r2.mono c.gr rs1).mono g c.rs) .nil))⟩
    rw [del_upd_ne ne]
    exact upd_same
end
/-- tests under a lock -/
def tLockT (t : TT) : TT := fun σ H Q => ∃ d u, H d = some u ∧ Mut (some u) ∧ ∀ od, t σ (upd H d (.frz od u)) fun b H' => H' d = some (.frz od u) ∧ Q b (upd H' d u)
theorem pts_lock {X : Cx} {ifs : List Expr} {t : TT} (h : PTs X ifs t) : PTs X ifs (tLockT t) := by
  refine ⟨fun pins s σ H Q I ⟨d, u, hd, mu, hw⟩ => ?_⟩
  obtain ⟨od, J⟩ := I.lock hd mu
  exact thn (h.run pins s σ _ _ J (hw od)) fun b s1 ⟨H1, J1, e, q⟩ => ⟨_, J1.unlock e (I.nofrz hd mu), q⟩
theorem pts_weak {X : Cx} {ifs : List Expr} {t u : TT} (h : PTs X ifs t) (hw : ∀ σ H Q, u σ H Q → t σ H Q) : PTs X ifs u :=
  ⟨fun pins s σ H Q I q => h.run pins s σ H Q I (hw _ _ _ q)⟩
/-- a clause's tests -/
abbrev RdF (L : Pl) (W : WX) (f : Env → Store → Res Bool) : TT := Rd L (fun _ _ (a b : Bool) => a = b) W f
abbrev noW : WX := fun _ _ _ _ => False

theorem same_wipe {τ τ' : L2.St} {vs is : List Nat} (h : Same is (wipe τ vs) τ') (hi : ∀ i ∈ is, i ∈ vs) : wipe τ' vs = wipe τ vs := by
  have hl : τ'.length = τ.length := h.1.trans (wipe_length _ _)
  have key : ∀ (ρ : L2.St) (ws : List Nat) (j : Nat), j ∈ ws → j < ρ.length → (wipe ρ ws)[j]? = some none := by
    intro ρ ws
    induction ws with
    | nil => intro j hj; cases hj
    | cons w ws ih =>
      intro j hj hl
      unfold wipe
      by_cases hw : w = j
      · subst hw
        rw [List.getElem?_set_self (by rw [wipe_length]; exact hl)]
      · rw [List.getElem?_set_ne hw]
        rcases List.mem_cons.mp hj with z | z
        · exact absurd z.symm hw
        · exact ih j z hl
  apply List.ext_getElem?
  intro j
  by_cases hj : j ∈ vs
  · by_cases hb : j < τ.length
    · rw [key τ vs j hj hb, key τ' vs j hj (by rw [hl]; exact hb)]
    · rw [List.getElem?_eq_none (by rw [wipe_length]; omega), List.getElem?_eq_none (by rw [wipe_length]; omega)]
  · rw [wipe_out hj, h.2 j fun z => hj (hi j z)]

section
variable {X : Cx} {L : Pl} {N : List Str} {sc : Scope} {W : WX} {G : Nat → Option D} {F : Cl}
/-- one turn, plainly -/
def turnF (G : Nat → Option D) (F : Cl) (e : Tm) (tg : Tg) (ifs : Tms) (ρ : Env) : D → Store → Res (Option D) := fun x S => match asg tg x ρ with
  | none => .bad
  | some σ' => (evt G F ifs σ' S).bind fun b S => if b then (ev G F e σ' S).bind fun y S => .ok (some y) S else .ok none S
theorem w_comp {e : Tm} {own : List Nat} {tg : Tg} {s : Sr} {ifs : Tms} {ol : List (Str × Nat)} {τ : L2.St} {H : Hp} {Q : VK} (ho : ol.map (·.2) = own) (hsub : ∀ i ∈ slotsT tg, i ∈ own) :
    RdE L W (ev G F (.comp e own tg s ifs)) τ H Q → tLc (RdI L W (evi G F s)) (RdG L tg) (tLockT (RdF L noW (evt G F ifs))) (tLockE (RdE L noW (ev G F e))) (ol.map (·.2)) τ H Q := fun ⟨σ, S, m, rs, re, p⟩ => by
  subst ho
  simp only [ev] at p
  refine ⟨σ, S, m, rs, re, (Pst.bind p).imp fun J H1 ⟨its, S1, m1, g1, rs1, ⟨yl, hlen⟩, p1⟩ => ?_⟩
  clear p
  intro D hD
  have re1 := re.mono g1 rs
  have hsc : ∀ a, L.fa SCR = some a → a ≠ D := fun a ha z => by
    obtain ⟨o, u, q⟩ := re1.scr a ha
    rw [z, hD] at q
    cases q
  have p1 : Pst L (Rp L.K L.fa) W τ m1 H1 Q ((turns (turnF G F e tg ifs (clr σ (ol.map (·.2)))) its S1).bind fun ys S => .ok (.lst ys) S) := p1
  generalize hf : turnF G F e tg ifs (clr σ (ol.map (·.2))) = f at p1
  refine ⟨fun i n H => n = its.length - i ∧ i ≤ its.length ∧ ∃ m' S' ys acc, Cs L m1 H1 D m' S' ys acc H ∧ acc.length ≤ i ∧ Pst L (Rp L.K L.fa) W τ m' (del H D) Q ((turns f (its.drop i) S').bind fun zs S => .ok (.lst (ys ++ zs)) S), ⟨its.length, rfl, Nat.zero_le _, m1, S1, [], [], ⟨upd_same, rs1.fresh hD, ?_, ?_, .nil⟩, Nat.le_refl _, ?_⟩, ?_⟩
  · rw [del_upd, del_none hD]; exact .refl _ _
  · rw [del_upd, del_none hD]; exact rs1
  · rw [del_upd, del_none hD]
    simpa using p1
  rintro i n H ⟨rfl, hi, m', S', ys, acc, c, hacc, p2⟩
  have gH : Gr m1 H1 m' H := c.gr.trans (gr_back fun _ _ => rfl)
  by_cases hlt : i < its.length
  · have hd : its[i]? = some its[i] := List.getElem?_eq_getElem hlt
    generalize its[i] = d at hd
    obtain ⟨y1, y2⟩ := yl.go m' H gH i d hd
    have hdrop : its.drop i = d :: its.drop (i + 1) := by
      rw [List.drop_eq_getElem_cons hlt]
      congr 1
      exact (List.getElem?_eq_some_iff.mp hd).2
    rw [hdrop] at p2
    refine .inr ⟨y1, fun H' => i + 1 ≤ its.length ∧ ∃ m' S' ys acc, Cs L m1 H1 D m' S' ys acc H' ∧ acc.length ≤ i + 1 ∧ Pst L (Rp L.K L.fa) W τ m' (del H' D) Q ((turns f (its.drop (i + 1)) S').bind fun zs S => .ok (.lst (ys ++ zs)) S), fun H' q => ⟨its.length - (i + 1), by omega, rfl, q⟩, fun x H' yy => ?_⟩
    obtain ⟨c1, g1', rd⟩ := c.item rs1 (y2 x H' yy)
    have p3 := p2.step g1'
    clear p2
    simp only [turns] at p3
    -- the turn does not stick
    have hfd : f d S' = turnF G F e tg ifs (clr σ (ol.map (·.2))) d S' := by rw [hf]
    rw [hfd] at p3
    unfold turnF at p3
    cases ea : asg tg d (clr σ (ol.map (·.2))) with
    | none => rw [ea] at p3; exact p3.elim
    | some σ' =>
      rw [ea] at p3
      dsimp only at p3
      cases et : evt G F ifs σ' S' with
      | ex x S2 => rw [et] at p3; exact p3.elim
      | bad => rw [et] at p3; exact p3.elim
      | ok b S2 =>
        rw [et, bind_ok] at p3
        refine ⟨d, clr σ (ol.map (·.2)), σ', S', m', del H' D, gr_back fun _ _ => rfl, c1.rs, (re1.mono c1.gr rs1).clr _, rd, ea, fun τ' re' sm => ⟨same_wipe sm hsub, D, .lst acc, c1.at_, trivial, fun od => ?_⟩⟩
        have hne : ∀ {o : HO} (a : Addr), a ≠ D → upd H' D o a = H' a := fun a n => upd_ne n
        refine ⟨σ', S', m', rs_back c1.rs hne, re'.mono (gr_back hne) c1.rs, ?_⟩
        rw [et]
        intro v m2 H2 gg rs2 hv
        subst hv
        obtain ⟨e2, g2, c2⟩ := c1.ran hsc gg rs2
        refine ⟨e2, ?_⟩
        have p4 := p3.step g2
        have dd : del H2 D = del (upd H2 D (.lst acc)) D := del_upd.symm
        rw [dd] at p4 g2
        cases b with
        | false =>
          rw [if_neg Bool.false_ne_true] at p4
          show _ ≤ _ ∧ _
          refine ⟨hlt, m2, S2, ys, acc, c2, by omega, ?_⟩
          rw [calm_ok, bind_ok] at p4
          cases er : turns f (its.drop (i + 1)) S2 with
          | ok zs S3 => rw [er] at p4; exact p4
          | ex x S3 => rw [er] at p4; exact p4
          | bad => rw [er] at p4; exact p4
        | true =>
          rw [if_pos rfl] at p4
          simp only [if_true]
          cases ev1 : ev G F e σ' S2 with
          | ex x S3 => rw [ev1] at p4; exact p4.elim
          | bad => rw [ev1] at p4; exact p4.elim
          | ok y S3 =>
            rw [ev1, bind_ok, calm_ok, bind_ok] at p4
            refine ⟨D, .lst acc, c2.at_, trivial, fun od2 => ?_⟩
            have hne2 : ∀ {o : HO} (a : Addr), a ≠ D → upd (upd H2 D (.lst acc)) D o a = (upd H2 D (.lst acc)) a := fun a n => upd_ne n
            refine ⟨σ', S2, m2, rs_back c2.rs hne2, (re'.mono g2 c1.rs).mono (gr_back hne2) c2.rs, ?_⟩
            rw [ev1]
            intro v m3 H3 gg3 rs3 rv
            obtain ⟨e3, g3, c3⟩ := c2.ran hsc gg3 rs3
            have rv2 := rp_del e3 hsc rv
            refine ⟨e3, acc, c3.at_, Nat.lt_of_le_of_lt hacc (Nat.lt_of_lt_of_le hlt hlen), hlt, m3, S3, ys ++ [y], acc ++ [v], ?_, by rw [List.length_append]; exact Nat.succ_le_succ hacc, ?_⟩
            · exact c3.more (by rw [del_upd]; exact rv2)
            · have p5 := p4.step g3
              rw [del_upd, del_upd]
              cases er : turns f (its.drop (i + 1)) S3 with
              | ok zs S4 =>
                rw [er] at p5
                rw [bind_ok, List.append_assoc]
                exact p5
              | ex x S4 => rw [er] at p5; exact p5
              | bad => rw [er] at p5; exact p5
  · have e : i = its.length := by omega
    subst e
    rw [List.drop_length] at p2
    simp only [turns, bind_ok, List.append_nil] at p2
    refine .inl ⟨yl.stop m' H gH, p2 (.ref D) m' H (gr_back fun _ _ => rfl) (rs_back c.rs fun _ _ => rfl) (.lst c.at_ c.nin (Nat.le_trans hacc hlen) (c.rl.mono (gr_back fun _ _ => rfl) c.rs))⟩
theorem e_comp {e : Tm} {own : List Nat} {tg : Tg} {s : Sr} {ifs : Tms} {elt tgE iter : Expr} {ifsE : List Expr} {scope : Scope} {ol : List (Str × Nat)} {pos : Pos} (g : Good X L N sc W)
    (hi : PI X tgE iter (RdI L W (evi G F s))) (ok : BlkOk X.N X.env.scope scope ol) (ho : ol.map (·.2) = own) (hsub : ∀ i ∈ slotsT tg, i ∈ own)
    (hg : ∀ (s : Shared) (H : Hp) (C : Addr) (cl : List (Str × Addr)) (fp : List Addr), PG (X.blk s H scope (compEnvC scope cl C X.env) fp) tgE (RdG L tg))
    (ht : ∀ (s : Shared) (H : Hp) (C : Addr) (cl : List (Str × Addr)) (fp : List Addr), PTs (X.blk s H scope (compEnvC scope cl C X.env) fp) ifsE (RdF L noW (evt G F ifs)))
    (he : ∀ (s : Shared) (H : Hp) (C : Addr) (cl : List (Str × Addr)) (fp : List Addr), PE (X.blk s H scope (compEnvC scope cl C X.env) fp) elt (RdE L noW (ev G F e)))
    (hs : ∀ x, foldedSetIterable iter X.env x = pure x) : PE X (.ListComp elt [⟨tgE, iter, ifsE, 0⟩] scope pos) (RdE L W (ev G F (.comp e own tg s ifs))) :=
  PE.weak (pe_lc g.calm (by rw [g.hN]; exact g.nd) hi ok hg (fun s H C cl fp => pts_lock (ht s H C cl fp)) (fun s H C cl fp => pe_lock (he s H C cl fp)) hs) fun τ H Q q => w_comp ho hsub q
/-- kept in a local on one line -/
theorem a_comp {i : Nat} {y : Str} {py spos : Pos} {e : Tm} {own : List Nat} {tg : Tg} {s : Sr} {ifs : Tms} {elt tgE iter : Expr} {ifsE : List Expr} {scope : Scope} {ol : List (Str × Nat)} {pos : Pos} (g : Good X L N sc W) (hy : X.N[i]? = some y) (hyl : X.env.scope.names.lookup y = some .local)
    (hsw : swapsWith (.ListComp elt [⟨tgE, iter, ifsE, 0⟩] scope pos) (some (.Name y py)) spos.line X.env = pure true)
    (hi : PI X tgE iter (RdI L W (evi G F s))) (ok : BlkOk X.N X.env.scope scope ol) (ho : ol.map (·.2) = own) (hsub : ∀ i ∈ slotsT tg, i ∈ own)
    (hg : ∀ (s : Shared) (H : Hp) (C : Addr) (cl : List (Str × Addr)) (fp : List Addr), PG (X.blk s H scope (compEnvC scope cl C X.env) fp) tgE (RdG L tg))
    (ht : ∀ (s : Shared) (H : Hp) (C : Addr) (cl : List (Str × Addr)) (fp : List Addr), PTs (X.blk s H scope (compEnvC scope cl C X.env) fp) ifsE (RdF L noW (evt G F ifs)))
    (he : ∀ (s : Shared) (H : Hp) (C : Addr) (cl : List (Str × Addr)) (fp : List Addr), PE (X.blk s H scope (compEnvC scope cl C X.env) fp) elt (RdE L noW (ev G F e)))
    (hs : ∀ x, foldedSetIterable iter X.env x = pure x) : PS X (.Assign [.Name y py] (.ListComp elt [⟨tgE, iter, ifsE, 0⟩] scope pos) spos) (tAsg (RdE L W (ev G F (.comp e own tg s ifs))) (gName i)) :=
  ⟨fun pins st σ H Dn I q => (ps_setLc g.calm (by rw [g.hN]; exact g.nd) hy hyl hsw hi ok hg (fun s H C cl fp => pts_lock (ht s H C cl fp)) (fun s H C cl fp => pe_lock (he s H C cl fp)) hs).run pins st σ H Dn I (show tLc _ _ _ _ _ σ H _ from w_comp ho hsub q)⟩
end
end Rf

set_option Elab.async false
set_option maxRecDepth 100000
set_option maxHeartbeats 1000000
/-! Rf, part K: a term that is checked reads as it is told. -/
namespace Rf
open PySem PySem.Spec PyProof.Rows L2

/-! ### which syntax -/
section
variable {Tb : Tabs} {N : List Str} {sc : Scope} {t : Bool}
theorem x_var {i : Nat} : ∀ {e : Expr}, chk Tb N sc (.var i) t e = true → ∃ x p, e = .Name x p ∧ slotB N sc i x = true
  | .Name x p, h => ⟨x, p, rfl, h⟩
theorem x_cst {k : Cst} : ∀ {e : Expr}, chk Tb N sc (.cst k) t e = true → ∃ c j p, e = .Constant c j p ∧ t = false ∧ cstB k c = true
  | .Constant c j p, h => ⟨c, j, p, rfl, by simpa using (bA h).1, (bA h).2⟩
theorem x_glb {i : Nat} : ∀ {e : Expr}, chk Tb N sc (.glb i) t e = true → ∃ x p, e = .Name x p ∧ glbB Tb sc i x = true
  | .Name x p, h => ⟨x, p, rfl, h⟩
theorem x_fnv {i : Nat} : ∀ {e : Expr}, chk Tb N sc (.fnv i) t e = true → ∃ x p, e = .Name x p ∧ rowB Tb sc i x = true
  | .Name x p, h => ⟨x, p, rfl, h⟩
theorem x_bin {op : BOp} {a b : Tm} : ∀ {e : Expr}, chk Tb N sc (.bin op a b) t e = true → ∃ l o r p, e = .BinOp l o r p ∧ t = false ∧ opB op o = true ∧ chk Tb N sc a false l = true ∧ chk Tb N sc b false r = true
  | .BinOp l o r p, h => ⟨l, o, r, p, rfl, by simpa using (bA h).1, (bA (bA h).2).1, bA (bA (bA h).2).2⟩
theorem x_neg {a : Tm} : ∀ {e : Expr}, chk Tb N sc (.neg a) t e = true → ∃ l p, e = .UnaryOp .USub l p ∧ t = false ∧ chk Tb N sc a false l = true
  | .UnaryOp .USub l p, h => ⟨l, p, rfl, by simpa using (bA h).1, (bA h).2⟩
theorem x_not {a : Tm} : ∀ {e : Expr}, chk Tb N sc (.not a) t e = true → ∃ l p, e = .UnaryOp .Not l p ∧ chk Tb N sc a t l = true
  | .UnaryOp .Not l p, h => ⟨l, p, rfl, h⟩
theorem x_cmp {op : COp} {a b : Tm} : ∀ {e : Expr}, chk Tb N sc (.cmp op a b) t e = true → ∃ l o r p, e = .Compare l [o] [r] p ∧ opC op o = true ∧ chk Tb N sc a false l = true ∧ chk Tb N sc b false r = true ∧ behindInMarks o r = false
  | .Compare l [o] [r] p, h => ⟨l, o, r, p, rfl, (bA h).1, (bA (bA h).2).1, (bA (bA (bA h).2).2).1, by simpa using (bA (bA (bA h).2).2).2⟩
theorem x_cmp2 {op op' : COp} {a b c : Tm} : ∀ {e : Expr}, chk Tb N sc (.cmp2 op op' a b c) t e = true → ∃ l o o' r r' p, e = .Compare l [o, o'] [r, r'] p ∧ opC op o = true ∧ opC op' o' = true ∧ chk Tb N sc a false l = true ∧ chk Tb N sc b false r = true ∧ chk Tb N sc c false r' = true ∧ lastMarks [o, o'] [r, r'] = false
  | .Compare l [o, o'] [r, r'] p, h => ⟨l, o, o', r, r', p, rfl, (bA h).1, (bA (bA h).2).1, (bA (bA (bA h).2).2).1, (bA (bA (bA (bA h).2).2).2).1, (bA (bA (bA (bA (bA h).2).2).2).2).1, by simpa using (bA (bA (bA (bA (bA h).2).2).2).2).2⟩
theorem x_and {a b : Tm} : ∀ {e : Expr}, chk Tb N sc (.and a b) t e = true → ∃ x y r p, e = .BoolOp .And (x :: y :: r) p ∧ chk Tb N sc a t x = true ∧ ((r = [] ∧ chk Tb N sc b t y = true) ∨ chk Tb N sc b t (.BoolOp .And (y :: r) p) = true)
  | .BoolOp .And (x :: y :: r) p, h => ⟨x, y, r, p, rfl, (bA h).1, by
    have h2 := (bA h).2
    cases r with
    | nil => exact .inl ⟨rfl, h2⟩
    | cons z r => exact .inr h2⟩
theorem x_or {a b : Tm} : ∀ {e : Expr}, chk Tb N sc (.or a b) t e = true → ∃ x y r p, e = .BoolOp .Or (x :: y :: r) p ∧ chk Tb N sc a t x = true ∧ ((r = [] ∧ chk Tb N sc b t y = true) ∨ chk Tb N sc b t (.BoolOp .Or (y :: r) p) = true)
  | .BoolOp .Or (x :: y :: r) p, h => ⟨x, y, r, p, rfl, (bA h).1, by
    have h2 := (bA h).2
    cases r with
    | nil => exact .inl ⟨rfl, h2⟩
    | cons z r => exact .inr h2⟩
theorem x_ite {c a b : Tm} : ∀ {e : Expr}, chk Tb N sc (.ite c a b) t e = true → ∃ z x y p, e = .IfExp z x y p ∧ t = false ∧ chk Tb N sc c true z = true ∧ chk Tb N sc a false x = true ∧ chk Tb N sc b false y = true
  | .IfExp z x y p, h => ⟨z, x, y, p, rfl, by simpa using (bA h).1, (bA (bA h).2).1, bA (bA (bA h).2).2⟩
theorem x_call {f : Nat} {as : Tms} : ∀ {e : Expr}, chk Tb N sc (.call f as) t e = true → ∃ x q e1 es p, e = .Call (.Name x q) (e1 :: es) [] p ∧ rowB Tb sc f x = true ∧ chks Tb N sc as (e1 :: es) = true
  | .Call (.Name x q) (e1 :: es) [] p, h => ⟨x, q, e1, es, p, rfl, bA h⟩
theorem x_callk {f : Nat} {as : Tms} : ∀ {e : Expr}, chk Tb N sc (.callk f as) t e = true → ∃ x q e1 es p, e = .Call (.Name x q) (e1 :: es) [] p ∧ rowB Tb sc f x = true ∧ chks Tb N sc as (e1 :: es) = true
  | .Call (.Name x q) (e1 :: es) [] p, h => ⟨x, q, e1, es, p, rfl, bA h⟩
theorem x_callv {i : Nat} {as : Tms} : ∀ {e : Expr}, chk Tb N sc (.callv i as) t e = true → ∃ x q e1 es p, e = .Call (.Name x q) (e1 :: es) [] p ∧ slotB N sc i x = true ∧ chks Tb N sc as (e1 :: es) = true
  | .Call (.Name x q) (e1 :: es) [] p, h => ⟨x, q, e1, es, p, rfl, bA h⟩
theorem x_blt {b : Blt} {as : Tms} : ∀ {e : Expr}, chk Tb N sc (.blt b as) t e = true → ∃ x q e1 es p, e = .Call (.Name x q) (e1 :: es) [] p ∧ bltName b = x ∧ freeB Tb sc x = true ∧ chks Tb N sc as (e1 :: es) = true
  | .Call (.Name x q) (e1 :: es) [] p, h => ⟨x, q, e1, es, p, rfl, of_decide_eq_true (bA h).1, bA (bA h).2⟩
theorem x_isi {a : Tm} {n : String} : ∀ {e : Expr}, chk Tb N sc (.isi a n) t e = true → ∃ q e1 y q2 p, e = .Call (.Name "isinstance" q) [e1, .Name y q2] [] p ∧ freeB Tb sc "isinstance" = true ∧ chk Tb N sc a false e1 = true ∧ notStar e1 = true ∧ y = Str.ofString n ∧ freeB Tb sc y = true ∧ isTyName n = true
  | .Call (.Name x q) [e1, .Name y q2] [] p, h => by
    obtain ⟨h1, h⟩ := bA h
    obtain rfl : x = "isinstance" := of_decide_eq_true h1
    exact ⟨q, e1, y, q2, p, rfl, (bA h).1, (bA (bA h).2).1, (bA (bA (bA h).2).2).1, of_decide_eq_true (bA (bA (bA (bA h).2).2).2).1, bA (bA (bA (bA (bA h).2).2).2).2⟩
theorem x_mth {m : Mth} {o : Tm} {as : Tms} : ∀ {e : Expr}, chk Tb N sc (.mth m o as) t e = true → ∃ e0 x ap e1 es cp, e = .Call (.Attribute e0 x ap) (e1 :: es) [] cp ∧ t = false ∧ mthName m = x ∧ chk Tb N sc o false e0 = true ∧ chks Tb N sc as (e1 :: es) = true ∧ plainB e0 = true ∧ (ap.endLine == cp.line) = true ∧ es.length + 1 = mthN m
  | .Call (.Attribute e0 x ap) (e1 :: es) [] cp, h => by
    obtain ⟨h0, h⟩ := bA h
    obtain ⟨h1, h⟩ := bA h
    obtain ⟨h2, h⟩ := bA h
    obtain ⟨h3, h⟩ := bA h
    obtain ⟨h4, h⟩ := bA h
    obtain ⟨h5, h6⟩ := bA h
    exact ⟨e0, x, ap, e1, es, cp, rfl, by simpa using h0, of_decide_eq_true h1, h2, h3, h4, h5, of_decide_eq_true h6⟩
theorem x_pop {o : Tm} : ∀ {e : Expr}, chk Tb N sc (.pop o) t e = true → ∃ e0 ap cp, e = .Call (.Attribute e0 "pop" ap) [] [] cp ∧ t = false ∧ chk Tb N sc o false e0 = true ∧ plainB e0 = true ∧ (ap.endLine == cp.line) = true
  | .Call (.Attribute e0 x ap) [] [] cp, h => by
    obtain ⟨h0, h'⟩ := bA h
    clear h
    obtain ⟨h1, h⟩ := bA h'
    clear h'
    obtain rfl : x = "pop" := of_decide_eq_true h1
    exact ⟨e0, ap, cp, rfl, by simpa using h0, (bA h).1, (bA (bA h).2).1, (bA (bA h).2).2⟩
theorem x_newc {a : Tm} : ∀ {e : Expr}, chk Tb N sc (.newc a) t e = true → ∃ q e1 p, e = .Call (.Name "list" q) [e1] [] p ∧ t = false ∧ freeB Tb sc "list" = true ∧ chk Tb N sc a false e1 = true ∧ notStar e1 = true
  | .Call (.Name x q) [e1] [] p, h => by
    obtain ⟨h0, h'⟩ := bA h
    clear h
    obtain ⟨h1, h⟩ := bA h'
    clear h'
    obtain rfl : x = "list" := of_decide_eq_true h1
    exact ⟨q, e1, p, rfl, by simpa using h0, (bA h).1, (bA (bA h).2).1, (bA (bA h).2).2⟩
theorem x_varw {i : Nat} : ∀ {e : Expr}, chk Tb N sc (.varw i) t e = true → ∃ x p, e = .Name x p ∧ t = false ∧ slotB N sc i x = true
  | .Name x p, h => ⟨x, p, rfl, by simpa using (bA h).1, (bA h).2⟩
theorem x_tupp {a : Tm} : ∀ {e : Expr}, chk Tb N sc (.tupp a) t e = true → ∃ q e1 p, e = .Call (.Name "tuple" q) [e1] [] p ∧ t = false ∧ freeB Tb sc "tuple" = true ∧ chk Tb N sc a false e1 = true ∧ notStar e1 = true
  | .Call (.Name x q) [e1] [] p, h => by
    obtain ⟨h0, h'⟩ := bA h
    clear h
    obtain ⟨h1, h⟩ := bA h'
    clear h'
    obtain rfl : x = "tuple" := of_decide_eq_true h1
    exact ⟨q, e1, p, rfl, by simpa using h0, (bA h).1, (bA (bA h).2).1, (bA (bA h).2).2⟩
theorem x_tix {i : Nat} {a : Tm} : ∀ {e : Expr}, chk Tb N sc (.tix i a) t e = true → ∃ x p0 ap e1 cp, e = .Call (.Attribute (.Name x p0) "index" ap) [e1] [] cp ∧ t = false ∧ slotB N sc i x = true ∧ chk Tb N sc a false e1 = true ∧ notStar e1 = true ∧ (ap.endLine == cp.line) = true
  | .Call (.Attribute (.Name x p0) y ap) [e1] [] cp, h => by
    obtain ⟨h0, h'⟩ := bA h
    clear h
    obtain ⟨h1, h⟩ := bA h'
    clear h'
    obtain rfl : y = "index" := of_decide_eq_true h1
    exact ⟨x, p0, ap, e1, cp, rfl, by simpa using h0, (bA h).1, (bA (bA h).2).1, (bA (bA (bA h).2).2).1, (bA (bA (bA h).2).2).2⟩
theorem x_rgl {tp : Bool} {a : Tm} : ∀ {e : Expr}, chk Tb N sc (.rgl tp a) t e = true → ∃ y q1 q2 e1 p2 p1, e = .Call (.Name y q1) [.Call (.Name "range" q2) [e1] [] p2] [] p1 ∧ t = false ∧ (y = if tp then "tuple" else "list") ∧ freeB Tb sc y = true ∧ freeB Tb sc "range" = true ∧ chk Tb N sc a false e1 = true ∧ notStar e1 = true
  | .Call (.Name y q1) [.Call (.Name x q2) [e1] [] p2] [] p1, h => by
    obtain ⟨h0, h'⟩ := bA h
    clear h
    obtain ⟨h1, h⟩ := bA h'
    clear h'
    obtain ⟨h2, h'⟩ := bA h
    clear h
    obtain ⟨h3, h⟩ := bA h'
    clear h'
    obtain rfl : x = "range" := of_decide_eq_true h3
    exact ⟨y, q1, q2, e1, p2, p1, rfl, by simpa using h0, of_decide_eq_true h1, h2, (bA h).1, (bA (bA h).2).1, (bA (bA h).2).2⟩
theorem x_rev {a : Tm} : ∀ {e : Expr}, chk Tb N sc (.rev a) t e = true → ∃ e1 k p1 p2 p3 p, e = .Subscript e1 (.Slice none none (some (.UnaryOp .USub (.Constant (.int 1) k p1) p2)) p3) p ∧ t = false ∧ chk Tb N sc a false e1 = true
  | .Subscript e1 (.Slice none none (some (.UnaryOp .USub (.Constant (.int i) k p1) p2)) p3) p, h => by
    obtain ⟨h0, h'⟩ := bA h
    clear h
    obtain ⟨h1, h⟩ := bA h'
    clear h'
    obtain rfl : i = 1 := of_decide_eq_true h1
    exact ⟨e1, k, p1, p2, p3, p, rfl, by simpa using h0, h⟩
theorem x_sum2 {a : Tm} : ∀ {e : Expr}, chk Tb N sc (.sum2 a) t e = true → ∃ q e1 p1 p, e = .Call (.Name "sum" q) [e1, .List [] p1] [] p ∧ t = false ∧ freeB Tb sc "sum" = true ∧ chk Tb N sc a false e1 = true ∧ notStar e1 = true
  | .Call (.Name x q) [e1, .List [] p1] [] p, h => by
    obtain ⟨h0, h'⟩ := bA h
    clear h
    obtain ⟨h1, h⟩ := bA h'
    clear h'
    obtain rfl : x = "sum" := of_decide_eq_true h1
    exact ⟨q, e1, p1, p, rfl, by simpa using h0, (bA h).1, (bA (bA h).2).1, (bA (bA h).2).2⟩
theorem x_sset {a : Tm} : ∀ {e : Expr}, chk Tb N sc (.sset a) t e = true → ∃ q q2 e1 p2 p, e = .Call (.Name "sorted" q) [.Call (.Name "set" q2) [e1] [] p2] [] p ∧ t = false ∧ freeB Tb sc "sorted" = true ∧ freeB Tb sc "set" = true ∧ chk Tb N sc a false e1 = true ∧ notStar e1 = true
  | .Call (.Name x q) [.Call (.Name y q2) [e1] [] p2] [] p, h => by
    obtain ⟨h0, h'⟩ := bA h
    clear h
    obtain ⟨h1, h⟩ := bA h'
    clear h'
    obtain rfl : x = "sorted" := of_decide_eq_true h1
    obtain ⟨h2, h'⟩ := bA h
    clear h
    obtain ⟨h3, h⟩ := bA h'
    clear h'
    obtain rfl : y = "set" := of_decide_eq_true h3
    exact ⟨q, q2, e1, p2, p, rfl, by simpa using h0, h2, (bA h).1, (bA (bA h).2).1, (bA (bA h).2).2⟩
theorem x_lkeys {o : Tm} : ∀ {e : Expr}, chk Tb N sc (.lkeys o) t e = true → ∃ q e1 ap cp p, e = .Call (.Name "list" q) [.Call (.Attribute e1 "keys" ap) [] [] cp] [] p ∧ t = false ∧ freeB Tb sc "list" = true ∧ chk Tb N sc o false e1 = true ∧ plainB e1 = true ∧ (ap.endLine == cp.line) = true
  | .Call (.Name x q) [.Call (.Attribute e1 y ap) [] [] cp] [] p, h => by
    obtain ⟨h0, h'⟩ := bA h
    clear h
    obtain ⟨h1, h⟩ := bA h'
    clear h'
    obtain rfl : x = "list" := of_decide_eq_true h1
    obtain ⟨h2, h'⟩ := bA h
    clear h
    obtain ⟨h3, h⟩ := bA h'
    clear h'
    obtain rfl : y = "keys" := of_decide_eq_true h3
    exact ⟨q, e1, ap, cp, p, rfl, by simpa using h0, h2, (bA h).1, (bA (bA h).2).1, (bA (bA h).2).2⟩
theorem x_edct : ∀ {e : Expr}, chk Tb N sc .edct t e = true → ∃ p, e = .Dict [] [] p ∧ t = false
  | .Dict [] [] p, h => ⟨p, rfl, by
    have h : (!t) = true := h
    simpa using h⟩
theorem x_dlx {kvs : List (Int × Cst)} {i : Tm} : ∀ {e : Expr}, chk Tb N sc (.dlx kvs i) t e = true → ∃ ks vs p b q, e = .Subscript (.Dict ks vs p) b q ∧ t = false ∧ (kvs.map (·.1)).Nodup ∧ kvs.length ≤ 15 ∧ kvs ≠ [] ∧ dlitB kvs ks vs = true ∧ chk Tb N sc i false b = true ∧ plainI b = true
  | .Subscript (.Dict ks vs p) b q, h => by
    obtain ⟨h0, h⟩ := bA h
    obtain ⟨h1, h⟩ := bA h
    obtain ⟨h2, h⟩ := bA h
    obtain ⟨h3, h⟩ := bA h
    obtain ⟨h4, h⟩ := bA h
    obtain ⟨h5, h6⟩ := bA h
    exact ⟨ks, vs, p, b, q, rfl, by simpa using h0, of_decide_eq_true h1, of_decide_eq_true h2, by simpa using h3, h4, h5, h6⟩
theorem x_dget {o k z : Tm} : ∀ {e : Expr}, chk Tb N sc (.dget o k z) t e = true → ∃ e0 ap e1 e2 cp, e = .Call (.Attribute e0 "get" ap) [e1, e2] [] cp ∧ t = false ∧ chk Tb N sc o false e0 = true ∧ chk Tb N sc k false e1 = true ∧ chk Tb N sc z false e2 = true ∧ notStar e1 = true ∧ notStar e2 = true ∧ plainB e0 = true ∧ (ap.endLine == cp.line) = true
  | .Call (.Attribute e0 x ap) [e1, e2] [] cp, h => by
    obtain ⟨h0, h'⟩ := bA h
    clear h
    obtain ⟨h1, h⟩ := bA h'
    clear h'
    obtain rfl : x = "get" := of_decide_eq_true h1
    exact ⟨e0, ap, e1, e2, cp, rfl, by simpa using h0, (bA h).1, (bA (bA h).2).1, (bA (bA (bA h).2).2).1, (bA (bA (bA (bA h).2).2).2).1, (bA (bA (bA (bA (bA h).2).2).2).2).1, bA (bA (bA (bA (bA (bA h).2).2).2).2).2⟩
theorem x_smth {b : Bool} {o a : Tm} : ∀ {e : Expr}, chk Tb N sc (.smth b o a) t e = true → ∃ e0 ap e1 cp, e = .Call (.Attribute e0 (if b then "join" else "split") ap) [e1] [] cp ∧ t = false ∧ chk Tb N sc o false e0 = true ∧ chk Tb N sc a false e1 = true ∧ notStar e1 = true ∧ plainB e0 = true ∧ (ap.endLine == cp.line) = true
  | .Call (.Attribute e0 x ap) [e1] [] cp, h => by
    obtain ⟨h0, h'⟩ := bA h
    clear h
    obtain ⟨h1, h⟩ := bA h'
    clear h'
    have h1 := of_decide_eq_true h1
    exact ⟨e0, ap, e1, cp, by rw [h1]; cases b <;> rfl, by simpa using h0, (bA h).1, (bA (bA h).2).1, (bA (bA (bA h).2).2).1, bA (bA (bA (bA h).2).2).2⟩
theorem x_skey {o : Tm} : ∀ {e : Expr}, chk Tb N sc (.skey o) t e = true → ∃ q e1 p, e = .Call (.Name "sorted" q) [e1] [] p ∧ freeB Tb sc "sorted" = true ∧ chk Tb N sc o false e1 = true ∧ notStar e1 = true
  | .Call (.Name x q) [e1] [] p, h => by
    obtain ⟨h1, h⟩ := bA h
    obtain rfl : x = "sorted" := of_decide_eq_true h1
    exact ⟨q, e1, p, rfl, (bA h).1, bA (bA h).2⟩
theorem x_idx {a i : Tm} : ∀ {e : Expr}, chk Tb N sc (.idx a i) t e = true → ∃ e1 b p, e = .Subscript e1 b p ∧ chk Tb N sc a false e1 = true ∧ chk Tb N sc i false b = true ∧ plainI b = true
  | .Subscript e1 b p, h => ⟨e1, b, p, rfl, (bA h).1, bA (bA h).2⟩
theorem x_slc {a : Tm} {lo hi : Tms} : ∀ {e : Expr}, chk Tb N sc (.slc a lo hi) t e = true → ∃ e1 l h2 p2 p, e = .Subscript e1 (.Slice l h2 none p2) p ∧ t = false ∧ chk Tb N sc a false e1 = true ∧ chkO Tb N sc lo l = true ∧ chkO Tb N sc hi h2 = true
  | .Subscript e1 (.Slice l h2 none p2) p, h => ⟨e1, l, h2, p2, p, rfl, by simpa using (bA h).1, (bA (bA h).2).1, bA (bA (bA h).2).2⟩
theorem x_tup {as : Tms} : ∀ {e : Expr}, chk Tb N sc (.tup as) t e = true → ∃ es j p, e = .Tuple es j p ∧ t = false ∧ chks Tb N sc as es = true ∧ es.length ≤ 1000
  | .Tuple es j p, h => ⟨es, j, p, rfl, by simpa using (bA h).1, (bA (bA h).2).1, of_decide_eq_true (bA (bA h).2).2⟩
theorem x_lst {as : Tms} : ∀ {e : Expr}, chk Tb N sc (.lst as) t e = true → ∃ es p, e = .List es p ∧ t = false ∧ chks Tb N sc as es = true ∧ es.length ≤ 1000
  | .List es p, h => ⟨es, p, rfl, by simpa using (bA h).1, (bA (bA h).2).1, of_decide_eq_true (bA (bA h).2).2⟩
theorem x_new {as : Tms} : ∀ {e : Expr}, chk Tb N sc (.new as) t e = true → ∃ es p, e = .List es p ∧ t = false ∧ chks Tb N sc as es = true ∧ es.length ≤ 1000
  | .List es p, h => ⟨es, p, rfl, by simpa using (bA h).1, (bA (bA h).2).1, of_decide_eq_true (bA (bA h).2).2⟩
theorem x_newd : ∀ {e : Expr}, chk Tb N sc .newd t e = true → ∃ p, e = .Dict [] [] p ∧ t = false
  | .Dict [] [] p, h => ⟨p, rfl, by
    have h : (!t) = true := h
    simpa using h⟩
theorem x_comp {a : Tm} {own : List Nat} {tg : Tg} {s : Sr} {ifs : Tms} : ∀ {e : Expr}, chk Tb N sc (.comp a own tg s ifs) t e = true → ∃ elt tgE iter ifsE scope p, e = .ListComp elt [⟨tgE, iter, ifsE, 0⟩] scope p ∧ t = false ∧ blkC N sc scope (ownL N own) = true ∧
    (ownL N own).map (·.2) = own ∧ chkS Tb N sc s tgE iter = true ∧ plainS iter = true ∧ chkG N (relS scope sc) (fun x => scope.names.lookup x == some .cell) tg tgE = true ∧ (∀ i ∈ slotsT tg, i ∈ own) ∧ chk Tb N (relS scope sc) a false elt = true ∧ chkF Tb N (relS scope sc) ifs ifsE = true
  | .ListComp elt [⟨tgE, iter, ifsE, 0⟩] scope p, h => by
    obtain ⟨h0, h⟩ := bA h
    obtain ⟨h1, h⟩ := bA h
    obtain ⟨h2, h⟩ := bA h
    obtain ⟨h3, h⟩ := bA h
    obtain ⟨h4, h⟩ := bA h
    obtain ⟨h5, h⟩ := bA h
    obtain ⟨h6, h⟩ := bA h
    refine ⟨elt, tgE, iter, ifsE, scope, p, rfl, by simpa using h0, h1, of_decide_eq_true h2, h3, h4, h5, fun i hi => ?_, bA h⟩
    have := List.all_eq_true.mp h6 i hi
    simpa using this
theorem x_cons {a : Tm} {r : Tms} : ∀ {es : List Expr}, chks Tb N sc (.cons a r) es = true → ∃ e er, es = e :: er ∧ notStar e = true ∧ chk Tb N sc a false e = true ∧ chks Tb N sc r er = true
  | e :: er, h => ⟨e, er, rfl, (bA h).1, bA (bA h).2⟩
theorem x_nil : ∀ {es : List Expr}, chks Tb N sc .nil es = true → es = []
  | [], _ => rfl
theorem xs_plain : ∀ {as : Tms} {es : List Expr}, chks Tb N sc as es = true → es.all notStar = true
  | .nil, es, h => by rw [x_nil h]; rfl
  | .cons a r, es, h => by
    obtain ⟨e, er, rfl, h1, _, h3⟩ := x_cons h
    rw [List.all_cons, h1, xs_plain h3]
    rfl
theorem chk_tst {a : Tm} {e : Expr} (hv : valT e = true) (h : chk Tb N sc a true e = true) : chk Tb N sc a false e = true := by
  cases a with
  | var => obtain ⟨_, _, rfl, h⟩ := x_var h; exact h
  | cst => obtain ⟨_, _, _, rfl, h, _⟩ := x_cst h; cases h
  | glb => obtain ⟨_, _, rfl, h⟩ := x_glb h; exact h
  | fnv => obtain ⟨_, _, rfl, h⟩ := x_fnv h; exact h
  | bin => obtain ⟨_, _, _, _, rfl, h, _⟩ := x_bin h; cases h
  | neg => obtain ⟨_, _, rfl, h, _⟩ := x_neg h; cases h
  | not => obtain ⟨_, _, rfl, h⟩ := x_not h; cases hv
  | cmp => obtain ⟨_, _, _, _, rfl, h⟩ := x_cmp h; cases hv
  | cmp2 => obtain ⟨_, _, _, _, _, _, rfl, h⟩ := x_cmp2 h; cases hv
  | and => obtain ⟨_, _, _, _, rfl, h⟩ := x_and h; cases hv
  | or => obtain ⟨_, _, _, _, rfl, h⟩ := x_or h; cases hv
  | ite => obtain ⟨_, _, _, _, rfl, h, _⟩ := x_ite h; cases h
  | call => obtain ⟨_, _, _, _, _, rfl, _⟩ := x_call h; exact h
  | callk => obtain ⟨_, _, _, _, _, rfl, _⟩ := x_callk h; exact h
  | callv => obtain ⟨_, _, _, _, _, rfl, _⟩ := x_callv h; exact h
  | blt => obtain ⟨_, _, _, _, _, rfl, _⟩ := x_blt h; exact h
  | isi => obtain ⟨_, _, _, _, _, rfl, _⟩ := x_isi h; exact h
  | mth => obtain ⟨_, _, _, _, _, _, rfl, h, _⟩ := x_mth h; cases h
  | pop => obtain ⟨_, _, _, rfl, h, _⟩ := x_pop h; cases h
  | newc => obtain ⟨_, _, _, rfl, h, _⟩ := x_newc h; cases h
  | rgl => obtain ⟨_, _, _, _, _, _, rfl, h, _⟩ := x_rgl h; cases h
  | rev => obtain ⟨_, _, _, _, _, _, rfl, h, _⟩ := x_rev h; cases h
  | sum2 => obtain ⟨_, _, _, _, rfl, h, _⟩ := x_sum2 h; cases h
  | sset => obtain ⟨_, _, _, _, _, rfl, h, _⟩ := x_sset h; cases h
  | edct => obtain ⟨_, rfl, h⟩ := x_edct h; cases h
  | varw => obtain ⟨_, _, rfl, h, _⟩ := x_varw h; cases h
  | tupp => obtain ⟨_, _, _, rfl, h, _⟩ := x_tupp h; cases h
  | tix => obtain ⟨_, _, _, _, _, rfl, h, _⟩ := x_tix h; cases h
  | dlx => obtain ⟨_, _, _, _, _, rfl, h, _⟩ := x_dlx h; cases h
  | lkeys => obtain ⟨_, _, _, _, _, rfl, h, _⟩ := x_lkeys h; cases h
  | dget => obtain ⟨_, _, _, _, _, rfl, h, _⟩ := x_dget h; cases h
  | smth => obtain ⟨_, _, _, _, rfl, h, _⟩ := x_smth h; cases h
  | skey => obtain ⟨_, _, _, rfl, _⟩ := x_skey h; exact h
  | idx => obtain ⟨_, _, _, rfl, _⟩ := x_idx h; exact h
  | slc => obtain ⟨_, _, _, _, _, rfl, h, _⟩ := x_slc h; cases h
  | tup => obtain ⟨_, _, _, rfl, h, _⟩ := x_tup h; cases h
  | lst => obtain ⟨_, _, rfl, h, _⟩ := x_lst h; cases h
  | new => obtain ⟨_, _, rfl, h, _⟩ := x_new h; cases h
  | newd => obtain ⟨_, rfl, h⟩ := x_newd h; cases h
  | comp => obtain ⟨_, _, _, _, _, _, rfl, h, _⟩ := x_comp h; cases h
theorem x_onil : ∀ {e : Option Expr}, chkO Tb N sc .nil e = true → e = none
  | none, _ => rfl
theorem x_ocons {a : Tm} {r : Tms} {e : Option Expr} (h : chkO Tb N sc (.cons a r) e = true) : ∃ x, r = .nil ∧ e = some x ∧ chk Tb N sc a false x = true := by
  cases r with
  | nil =>
    cases e with
    | none => exact absurd (show false = true from h) Bool.false_ne_true
    | some x => exact ⟨x, rfl, rfl, h⟩
  | cons b r => cases e <;> exact absurd (show false = true from h) Bool.false_ne_true
theorem x_fnil : ∀ {e : List Expr}, chkF Tb N sc .nil e = true → e = []
  | [], _ => rfl
theorem x_fcons {a : Tm} {r : Tms} {e : List Expr} (h : chkF Tb N sc (.cons a r) e = true) : ∃ x, r = .nil ∧ e = [x] ∧ chk Tb N sc a true x = true := by
  cases r with
  | nil =>
    cases e with
    | nil => exact absurd (show false = true from h) Bool.false_ne_true
    | cons x e =>
      cases e with
      | nil => exact ⟨x, rfl, rfl, h⟩
      | cons y e => exact absurd (show false = true from h) Bool.false_ne_true
  | cons b r => cases e <;> exact absurd (show false = true from h) Bool.false_ne_true
theorem x_enum {as : Tms} {tg : Expr} : ∀ {e : Expr}, chkS Tb N sc (.enum as) tg e = true → ∃ q e1 p, e = .Call (.Name "enumerate" q) [e1] [] p ∧ isTupE tg = true ∧ freeB Tb sc "enumerate" = true ∧ chks Tb N sc as [e1] = true
  | .Call (.Name x q) [e1] [] p, h => by
    obtain ⟨h1, h'⟩ := bA h
    obtain ⟨h2, h3⟩ := bA h'
    clear h h'
    obtain rfl : x = "enumerate" := of_decide_eq_true h2
    exact ⟨q, e1, p, rfl, h1, bA h3⟩
theorem x_zip {as : Tms} {tg : Expr} : ∀ {e : Expr}, chkS Tb N sc (.zip as) tg e = true → ∃ q e1 e2 p, e = .Call (.Name "zip" q) [e1, e2] [] p ∧ isTupE tg = true ∧ freeB Tb sc "zip" = true ∧ chks Tb N sc as [e1, e2] = true
  | .Call (.Name x q) [e1, e2] [] p, h => by
    obtain ⟨h1, h'⟩ := bA h
    obtain ⟨h2, h3⟩ := bA h'
    clear h h'
    obtain rfl : x = "zip" := of_decide_eq_true h2
    exact ⟨q, e1, e2, p, rfl, h1, bA h3⟩
theorem x_rng {as : Tms} {tg : Expr} : ∀ {e : Expr}, chkS Tb N sc (.rng as) tg e = true → ∃ q es p, e = .Call (.Name "range" q) es [] p ∧ freeB Tb sc "range" = true ∧ chks Tb N sc as es = true ∧ ((∃ a, es = [a]) ∨ (∃ a b, es = [a, b]) ∨ ∃ a b d, es = [a, b, d])
  | .Call (.Name x q) [a] [] p, h => by
    obtain ⟨h2, h3⟩ := bA h
    clear h
    obtain rfl : x = "range" := of_decide_eq_true h2
    exact ⟨q, _, p, rfl, (bA h3).1, (bA h3).2, .inl ⟨a, rfl⟩⟩
  | .Call (.Name x q) [a, b] [] p, h => by
    obtain ⟨h2, h3⟩ := bA h
    clear h
    obtain rfl : x = "range" := of_decide_eq_true h2
    exact ⟨q, _, p, rfl, (bA h3).1, (bA h3).2, .inr (.inl ⟨a, b, rfl⟩)⟩
  | .Call (.Name x q) [a, b, d] [] p, h => by
    obtain ⟨h2, h3⟩ := bA h
    clear h
    obtain rfl : x = "range" := of_decide_eq_true h2
    exact ⟨q, _, p, rfl, (bA h3).1, (bA h3).2, .inr (.inr ⟨a, b, d, rfl⟩)⟩
end
end Rf

set_option Elab.async false
set_option maxRecDepth 100000
set_option maxHeartbeats 1000000
/-! Rf, part L: a term that is checked reads as it is told. -/
namespace Rf
open PySem PySem.Spec PyProof.Rows L2

/-! ### the reading -/
structure Ctx (X : Cx) (L : Pl) (N : List Str) (sc : Scope) (W : WX) (k : Nat) (Tb : Tabs) (G : Nat → Option D) (F : Cl) : Prop extends Good X L N sc W where
  room : Room k X.A
  cal : CalOk X L Tb F k
  mod : ModOk X L Tb G
  cf : ∀ f a, L.fa f = some a → f < SCR → ∃ r, Tb.rows[f]? = some r
  few : Tb.rows.length ≤ SCR
section
variable {X : Cx} {L : Pl} {N : List Str} {sc : Scope} {W : WX} {k : Nat} {Tb : Tabs} {G : Nat → Option D} {F : Cl}
theorem Ctx.blk (c : Ctx X L N sc W k Tb G F) (s : Shared) (H : Hp) (scope : Scope) (C : Addr) (cl : List (Str × Addr)) (fp : List Addr) : Ctx (X.blk s H scope (compEnvC scope cl C X.env) fp) L N (relS scope sc) noW k Tb G F where
  hL := c.hL
  hN := c.hN
  nd := c.nd
  hsc := by rw [← c.hsc]; rfl
  calm := c.calm
  hd := c.hd
  un := c.un
  gd := c.gd
  tk := fun u s' ⟨_, _, _, _, _, _, _, _, _, _, _, _, _, _, _, _, w⟩ => w.elim
  room := c.room
  cal := c.cal
  mod := ⟨c.mod.free, c.mod.glb⟩
  cf := c.cf
  few := c.few
/-- what a term's check promises -/
structure Snd (L : Pl) (N : List Str) (k : Nat) (Tb : Tabs) (G : Nat → Option D) (F : Cl) (t : Tm) : Prop where
  e : ∀ {X : Cx} {sc : Scope} {W : WX}, Ctx X L N sc W k Tb G F → ∀ e, chk Tb N sc t false e = true → PE X e (RdE L W (ev G F t))
  tt : ∀ {X : Cx} {sc : Scope} {W : WX}, Ctx X L N sc W k Tb G F → ∀ e, chk Tb N sc t true e = true → PT X e (RdT L W (ev G F t))
  w : ∀ {X : Cx} {sc : Scope} {W : WX}, Ctx X L N sc W k Tb G F → ∀ bop es p, chk Tb N sc t true (.BoolOp bop es p) = true → PW X (.BoolOp bop es p) (RdT L W (ev G F t))
/-- a term that is a test as a value is -/
theorem Snd.val {t : Tm} (he : ∀ {X : Cx} {sc : Scope} {W : WX}, Ctx X L N sc W k Tb G F → ∀ e, chk Tb N sc t false e = true → PE X e (RdE L W (ev G F t))) (hv : ∀ {sc : Scope} e, chk Tb N sc t true e = true → valT e = true) : Snd L N k Tb G F t :=
  ⟨he, fun c e h => t_val c.toGood (hv e h) (he c e (chk_tst (hv e h) h)), fun c b es p h => absurd (show valT (.BoolOp b es p) = true from hv _ h) Bool.false_ne_true⟩
/-- never a test -/
theorem Snd.no {t : Tm} (he : ∀ {X : Cx} {sc : Scope} {W : WX}, Ctx X L N sc W k Tb G F → ∀ e, chk Tb N sc t false e = true → PE X e (RdE L W (ev G F t))) (hv : ∀ {sc : Scope} e, chk Tb N sc t true e = true → False) : Snd L N k Tb G F t :=
  ⟨he, fun c e h => (hv e h).elim, fun c b es p h => (hv _ h).elim⟩
theorem plainS_ok {iter : Expr} {env : PySem.Env} (h : plainS iter = true) : ∀ x, foldedSetIterable iter env x = pure x := by
  intro x
  cases iter <;> first | rfl | (exact absurd (show false = true from h) Bool.false_ne_true)
theorem xs_tup {tg : Expr} (h : isTupE tg = true) : ∃ es j p, tg = .Tuple es j p := by
  cases tg <;> first | (exact absurd (show false = true from h) Bool.false_ne_true) | exact ⟨_, _, _, rfl⟩
theorem rdF_one {a : Tm} {τ : L2.St} {H : Hp} {Q : Bool → Hp → Prop} : RdF L W (evt G F (.cons a .nil)) τ H Q → RdT L W (ev G F a) τ H Q := fun ⟨σ, S, m, rs, re, p⟩ => by
  simp only [evt] at p
  refine ⟨σ, S, m, rs, re, ?_⟩
  dsimp only
  unfold asB
  cases e : ev G F a σ S with
  | ok d S' =>
    rw [e, bind_ok] at p
    rw [bind_ok]
    split at p
    · exact p
    · exact p
    · exact p.elim
  | ex x S' => rw [e] at p; exact p
  | bad => rw [e] at p; exact p.elim
mutual
theorem s_tm : ∀ t : Tm, Snd L N k Tb G F t
  | .var i => .val (fun c e h => by obtain ⟨x, p, rfl, h⟩ := x_var h; exact e_var c.toGood h) (fun e h => by obtain ⟨x, p, rfl, h⟩ := x_var h; rfl)
  | .cst q => .no (fun c e h => by obtain ⟨_, _, _, rfl, _, h⟩ := x_cst h; exact e_cst c.toGood h) (fun e h => by obtain ⟨_, _, _, rfl, h, _⟩ := x_cst h; cases h)
  | .glb i => .val (fun c e h => by
      obtain ⟨x, p, rfl, h⟩ := x_glb h
      obtain ⟨h1, h⟩ := bA h
      obtain ⟨h2, h3⟩ := bA h
      split at h3
      · rename_i r hr
        obtain ⟨x', d⟩ := r
        obtain rfl : x' = x := of_decide_eq_true h3
        obtain ⟨g1, v, u, g2, g3, g4⟩ := c.mod.glb i x' d hr
        exact e_name c.toGood h1 h2 g2 g3 g4 fun σ S => by simp only [ev]; rw [g1]; rfl
      · cases h3) (fun e h => by obtain ⟨x, p, rfl, h⟩ := x_glb h; rfl)
  | .fnv i => .val (fun c e h => by
      obtain ⟨x, p, rfl, h⟩ := x_fnv h
      obtain ⟨h1, h⟩ := bA h
      obtain ⟨h2, h3⟩ := bA h
      split at h3
      · rename_i r hr
        obtain rfl : r.name = x := of_decide_eq_true h3
        obtain ⟨a, fd, c1, c2, c3, c4, c5, c6⟩ := c.cal i r hr
        exact e_name (v := .ref a) c.toGood h1 h2 c2 rfl (fun m H => .fn c1 (Nat.lt_of_lt_of_le (List.getElem?_eq_some_iff.mp hr).1 c.few)) fun σ S => by simp only [ev]
      · cases h3) (fun e h => by obtain ⟨x, p, rfl, h⟩ := x_fnv h; rfl)
  | .bin op a b => .no (fun c e h => by
      obtain ⟨l, o, r, p, rfl, _, h1, h2, h3⟩ := x_bin h
      exact e_bin c.toGood h1 ((s_tm a).e c _ h2) ((s_tm b).e c _ h3)) (fun e h => by obtain ⟨_, _, _, _, rfl, h, _⟩ := x_bin h; cases h)
  | .neg a => .no (fun c e h => by
      obtain ⟨l, p, rfl, _, h1⟩ := x_neg h
      exact e_neg c.toGood ((s_tm a).e c _ h1)) (fun e h => by obtain ⟨_, _, rfl, h, _⟩ := x_neg h; cases h)
  | .not a => ⟨fun c e h => by
      obtain ⟨l, p, rfl, h1⟩ := x_not h
      exact e_not c.toGood ((s_tm a).e c _ h1), fun c e h => by
      obtain ⟨l, p, rfl, h1⟩ := x_not h
      exact t_not c.toGood ((s_tm a).tt c _ h1), fun c b es p h => by obtain ⟨_, _, q, _⟩ := x_not h; cases q⟩
  | .cmp op a b => ⟨fun c e h => by
      obtain ⟨l, o, r, p, rfl, h1, h2, h3, h4⟩ := x_cmp h
      exact e_cmp c.toGood h1 h4 ((s_tm a).e c _ h2) ((s_tm b).e c _ h3), fun c e h => by
      obtain ⟨l, o, r, p, rfl, h1, h2, h3, h4⟩ := x_cmp h
      exact t_cmp c.toGood h1 h4 ((s_tm a).e c _ h2) ((s_tm b).e c _ h3), fun c b es p h => by obtain ⟨_, _, _, _, q, _⟩ := x_cmp h; cases q⟩
  | .cmp2 op op' a b d => ⟨fun c e h => by
      obtain ⟨l, o, o', r, r', p, rfl, h1, h2, h3, h4, h5, h6⟩ := x_cmp2 h
      exact e_cmp2 c.toGood h1 h2 h6 ((s_tm a).e c _ h3) ((s_tm b).e c _ h4) ((s_tm d).e c _ h5), fun c e h => by
      obtain ⟨l, o, o', r, r', p, rfl, h1, h2, h3, h4, h5, h6⟩ := x_cmp2 h
      exact t_cmp2 c.toGood h1 h2 h6 ((s_tm a).e c _ h3) ((s_tm b).e c _ h4) ((s_tm d).e c _ h5), fun c b es p h => by obtain ⟨_, _, _, _, _, _, q, _⟩ := x_cmp2 h; cases q⟩
  | .and a b => by
    have hw : ∀ {X : Cx} {sc : Scope} {W : WX}, Ctx X L N sc W k Tb G F → ∀ e, chk Tb N sc (.and a b) true e = true → PW X e (RdT L W (ev G F (.and a b))) := fun c e h => by
      obtain ⟨x, y, r, p, rfl, h1, h2⟩ := x_and h
      refine t_and c.toGood ((s_tm a).tt c _ h1) ?_
      rcases h2 with ⟨rfl, h2⟩ | h2
      · exact pw_and1 ((s_tm b).tt c _ h2)
      · exact (s_tm b).w c _ _ _ h2
    refine ⟨fun c e h => ?_, fun c e h => (hw c e h).pt, fun c bop es p h => hw c _ h⟩
    obtain ⟨x, y, r, p, rfl, h1, h2⟩ := x_and h
    refine e_and c.toGood ((s_tm a).e c _ h1) ?_
    rcases h2 with ⟨rfl, h2⟩ | h2
    · exact pe_one ((s_tm b).e c _ h2)
    · exact (s_tm b).e c _ h2
  | .or a b => by
    have hw : ∀ {X : Cx} {sc : Scope} {W : WX}, Ctx X L N sc W k Tb G F → ∀ e, chk Tb N sc (.or a b) true e = true → PW X e (RdT L W (ev G F (.or a b))) := fun c e h => by
      obtain ⟨x, y, r, p, rfl, h1, h2⟩ := x_or h
      refine t_or c.toGood ((s_tm a).tt c _ h1) ?_
      rcases h2 with ⟨rfl, h2⟩ | h2
      · exact pw_or1 ((s_tm b).tt c _ h2)
      · exact (s_tm b).w c _ _ _ h2
    refine ⟨fun c e h => ?_, fun c e h => (hw c e h).pt, fun c bop es p h => hw c _ h⟩
    obtain ⟨x, y, r, p, rfl, h1, h2⟩ := x_or h
    refine e_or c.toGood ((s_tm a).e c _ h1) ?_
    rcases h2 with ⟨rfl, h2⟩ | h2
    · exact pe_one ((s_tm b).e c _ h2)
    · exact (s_tm b).e c _ h2
  | .ite z a b => .no (fun c e h => by
      obtain ⟨q, x, y, p, rfl, _, h1, h2, h3⟩ := x_ite h
      exact e_ite c.toGood ((s_tm z).tt c _ h1) ((s_tm a).e c _ h2) ((s_tm b).e c _ h3)) (fun e h => by obtain ⟨_, _, _, _, rfl, h, _⟩ := x_ite h; cases h)
  | .call f as => .val (fun c e h => by
      obtain ⟨x, q, e1, es, p, rfl, h1, h2⟩ := x_call h
      exact e_call c.toGood c.room c.cal h1 (xs_plain h2) (s_tms as c _ h2)) (fun e h => by obtain ⟨_, _, _, _, _, rfl, _⟩ := x_call h; rfl)
  | .callk f as => .val (fun c e h => by
      obtain ⟨x, q, e1, es, p, rfl, h1, h2⟩ := x_callk h
      exact e_callk c.toGood c.room c.cal h1 (xs_plain h2) (s_tms as c _ h2)) (fun e h => by obtain ⟨_, _, _, _, _, rfl, _⟩ := x_callk h; rfl)
  | .callv i as => .val (fun c e h => by
      obtain ⟨x, q, e1, es, p, rfl, h1, h2⟩ := x_callv h
      exact e_callv c.toGood c.room c.cal c.cf h1 (xs_plain h2) (s_tms as c _ h2)) (fun e h => by obtain ⟨_, _, _, _, _, rfl, _⟩ := x_callv h; rfl)
  | .blt b as => .val (fun c e h => by
      obtain ⟨x, q, e1, es, p, rfl, h0, h1, h2⟩ := x_blt h
      exact e_blt c.toGood c.mod h0 h1 (xs_plain h2) (s_tms as c _ h2)) (fun e h => by obtain ⟨_, _, _, _, _, rfl, _⟩ := x_blt h; rfl)
  | .isi a n => .val (fun c e h => by
      obtain ⟨q, e1, y, q2, p, rfl, h1, h2, h3, h4, h5, h6⟩ := x_isi h
      exact e_isi c.toGood c.mod h1 h3 h4 h5 h6 ((s_tm a).e c _ h2)) (fun e h => by obtain ⟨_, _, _, _, _, rfl, _⟩ := x_isi h; rfl)
  | .mth m o as => .no (fun c e h => by
      obtain ⟨e0, x, ap, e1, es, cp, rfl, _, h1, h2, h3, h4, h5, h6⟩ := x_mth h
      exact e_mth c.toGood h1 h4 h5 (xs_plain h3) h6 ((s_tm o).e c _ h2) (s_tms as c _ h3)) (fun e h => by obtain ⟨_, _, _, _, _, _, rfl, h, _⟩ := x_mth h; cases h)
  | .pop o => .no (fun c e h => by
      obtain ⟨e0, ap, cp, rfl, _, h1, h2, h3⟩ := x_pop h
      exact e_pop c.toGood h2 h3 ((s_tm o).e c _ h1)) (fun e h => by obtain ⟨_, _, _, rfl, h, _⟩ := x_pop h; cases h)
  | .newc a => .no (fun c e h => by
      obtain ⟨q, e1, p, rfl, _, h1, h2, h3⟩ := x_newc h
      exact e_newc c.toGood c.mod h1 h3 ((s_tm a).e c _ h2)) (fun e h => by obtain ⟨_, _, _, rfl, h, _⟩ := x_newc h; cases h)
  | .rgl tp a => .no (fun c e h => by
      obtain ⟨y, q1, q2, e1, p2, p1, rfl, _, h1, h2, h3, h4, h5⟩ := x_rgl h
      exact e_rgl c.toGood c.mod h1 h2 h3 h5 ((s_tm a).e c _ h4)) (fun e h => by obtain ⟨_, _, _, _, _, _, rfl, h, _⟩ := x_rgl h; cases h)
  | .rev a => .no (fun c e h => by
      obtain ⟨e1, k, p1, p2, p3, p, rfl, _, h1⟩ := x_rev h
      exact e_rev c.toGood ((s_tm a).e c _ h1)) (fun e h => by obtain ⟨_, _, _, _, _, _, rfl, h, _⟩ := x_rev h; cases h)
  | .sum2 a => .no (fun c e h => by
      obtain ⟨q, e1, p1, p, rfl, _, h1, h2, h3⟩ := x_sum2 h
      exact e_sum2 c.toGood c.mod h1 h3 ((s_tm a).e c _ h2)) (fun e h => by obtain ⟨_, _, _, _, rfl, h, _⟩ := x_sum2 h; cases h)
  | .sset a => .no (fun c e h => by
      obtain ⟨q, q2, e1, p2, p, rfl, _, h1, h2, h3, h4⟩ := x_sset h
      exact e_sset c.toGood c.mod h1 h2 h4 ((s_tm a).e c _ h3)) (fun e h => by obtain ⟨_, _, _, _, _, rfl, h, _⟩ := x_sset h; cases h)
  | .lkeys o => .no (fun c e h => by
      obtain ⟨q, e1, ap, cp, p, rfl, _, h1, h2, h3, h4⟩ := x_lkeys h
      exact e_lkeys c.toGood c.mod h1 h3 h4 ((s_tm o).e c _ h2)) (fun e h => by obtain ⟨_, _, _, _, _, rfl, h, _⟩ := x_lkeys h; cases h)
  | .edct => .no (fun c e h => by
      obtain ⟨p, rfl, _⟩ := x_edct h
      exact e_edct c.toGood) (fun e h => by obtain ⟨_, rfl, h⟩ := x_edct h; cases h)
  | .varw i => .no (fun c e h => by
      obtain ⟨x, p, rfl, _, h1⟩ := x_varw h
      exact e_varw c.toGood h1) (fun e h => by obtain ⟨_, _, rfl, h, _⟩ := x_varw h; cases h)
  | .tupp a => .no (fun c e h => by
      obtain ⟨q, e1, p, rfl, _, h1, h2, h3⟩ := x_tupp h
      exact e_tupp c.toGood c.mod h1 h3 ((s_tm a).e c _ h2)) (fun e h => by obtain ⟨_, _, _, rfl, h, _⟩ := x_tupp h; cases h)
  | .tix i a => .no (fun c e h => by
      obtain ⟨x, p0, ap, e1, cp, rfl, _, h1, h2, h3, h4⟩ := x_tix h
      exact e_tix c.toGood h1 h4 h3 ((s_tm a).e c _ h2)) (fun e h => by obtain ⟨_, _, _, _, _, rfl, h, _⟩ := x_tix h; cases h)
  | .dlx kvs i => .no (fun c e h => by
      obtain ⟨ks, vs, p, b, q, rfl, _, h1, h2, h3, h4, h5, h6⟩ := x_dlx h
      exact e_dlx c.toGood h1 h2 h3 h4 h6 ((s_tm i).e c _ h5)) (fun e h => by obtain ⟨_, _, _, _, _, rfl, h, _⟩ := x_dlx h; cases h)
  | .dget o q z => .no (fun c e h => by
      obtain ⟨e0, ap, e1, e2, cp, rfl, _, h1, h2, h3, h4, h5, h6, h7⟩ := x_dget h
      exact e_dget c.toGood h6 h7 h4 h5 ((s_tm o).e c _ h1) ((s_tm q).e c _ h2) ((s_tm z).e c _ h3)) (fun e h => by obtain ⟨_, _, _, _, _, rfl, h, _⟩ := x_dget h; cases h)
  | .smth b o a => .no (fun c e h => by
      obtain ⟨e0, ap, e1, cp, rfl, _, h1, h2, h3, h4, h5⟩ := x_smth h
      exact e_smth c.toGood h4 h5 h3 ((s_tm o).e c _ h1) ((s_tm a).e c _ h2)) (fun e h => by obtain ⟨_, _, _, _, rfl, h, _⟩ := x_smth h; cases h)
  | .skey o => .val (fun c e h => by
      obtain ⟨q, e1, p, rfl, h1, h2, h3⟩ := x_skey h
      exact e_skey c.toGood c.mod h1 h3 ((s_tm o).e c _ h2)) (fun e h => by obtain ⟨_, _, _, rfl, _⟩ := x_skey h; rfl)
  | .idx a i => .val (fun c e h => by
      obtain ⟨e1, b, p, rfl, h1, h2, h3⟩ := x_idx h
      exact e_idx c.toGood h3 ((s_tm a).e c _ h1) ((s_tm i).e c _ h2)) (fun e h => by obtain ⟨_, _, _, rfl, _⟩ := x_idx h; rfl)
  | .slc a lo hi => .no (fun c e h => by
      obtain ⟨e1, l, h2, p2, p, rfl, _, h3, h4, h5⟩ := x_slc h
      exact e_slc c.toGood ((s_tm a).e c _ h3) (s_opt lo c _ h4) (s_opt hi c _ h5)) (fun e h => by obtain ⟨_, _, _, _, _, rfl, h, _⟩ := x_slc h; cases h)
  | .tup as => .no (fun c e h => by
      obtain ⟨es, j, p, rfl, _, h1, h2⟩ := x_tup h
      exact e_tup c.toGood h1 h2 (s_tms as c _ h1)) (fun e h => by obtain ⟨_, _, _, rfl, h, _⟩ := x_tup h; cases h)
  | .lst as => .no (fun c e h => by
      obtain ⟨es, p, rfl, _, h1, h2⟩ := x_lst h
      exact e_lst c.toGood h1 h2 (s_tms as c _ h1)) (fun e h => by obtain ⟨_, _, rfl, h, _⟩ := x_lst h; cases h)
  | .new as => .no (fun c e h => by
      obtain ⟨es, p, rfl, _, h1, h2⟩ := x_new h
      exact e_new c.toGood h1 h2 (s_tms as c _ h1)) (fun e h => by obtain ⟨_, _, rfl, h, _⟩ := x_new h; cases h)
  | .newd => .no (fun c e h => by
      obtain ⟨p, rfl, _⟩ := x_newd h
      exact e_newd c.toGood) (fun e h => by obtain ⟨_, rfl, h⟩ := x_newd h; cases h)
  | .comp a own tg s ifs => .no (fun c e h => by
      obtain ⟨elt, tgE, iter, ifsE, scope, p, rfl, _, h1, h2, h3, h4, h5, h6, h7, h8⟩ := x_comp h
      exact e_comp c.toGood (s_sr s c _ _ h3) (blkOk_by (by rw [c.hN, c.hsc]; exact h1)) h2 h6
        (fun s H C cl fp => g_one (c.blk s H scope C cl fp).hN c.nd (c.blk s H scope C cl fp).hsc c.calm c.hL (fun x hx => hx) tg tgE h5)
        (fun s H C cl fp => s_ifs ifs (c.blk s H scope C cl fp) _ h8) (fun s H C cl fp => (s_tm a).e (c.blk s H scope C cl fp) _ h7) (plainS_ok h4)) (fun e h => by obtain ⟨_, _, _, _, _, _, rfl, h, _⟩ := x_comp h; cases h)
theorem s_tms : ∀ (as : Tms) {X : Cx} {sc : Scope} {W : WX}, Ctx X L N sc W k Tb G F → ∀ es, chks Tb N sc as es = true → PA X es (RdA L W (evs G F as))
  | .nil, _, _, _, c, es, h => by rw [x_nil h]; exact a_nil
  | .cons a r, _, _, _, c, es, h => by
    obtain ⟨e, er, rfl, h1, h2, h3⟩ := x_cons h
    exact a_cons h1 ((s_tm a).e c _ h2) (s_tms r c _ h3)
theorem s_opt : ∀ (as : Tms) {X : Cx} {sc : Scope} {W : WX}, Ctx X L N sc W k Tb G F → ∀ e, chkO Tb N sc as e = true → PO X e (RdO L W (evs G F as))
  | .nil, _, _, _, c, e, h => by rw [x_onil h]; exact o_none
  | .cons a r, _, _, _, c, e, h => by
    obtain ⟨x, rfl, rfl, h1⟩ := x_ocons h
    exact o_some ((s_tm a).e c _ h1)
theorem s_ifs : ∀ (as : Tms) {X : Cx} {sc : Scope} {W : WX}, Ctx X L N sc W k Tb G F → ∀ es, chkF Tb N sc as es = true → PTs X es (RdF L W (evt G F as))
  | .nil, _, _, _, c, es, h => by
    rw [x_fnil h]
    refine pts_weak pts_nil fun τ H Q ⟨σ, S, m, rs, re, p⟩ => ?_
    simp only [evt] at p
    exact p true m H (.refl _ _) rs rfl
  | .cons a r, _, _, _, c, es, h => by
    obtain ⟨x, rfl, rfl, h1⟩ := x_fcons h
    exact pts_weak (pts_one ((s_tm a).tt c _ h1)) fun τ H Q q => rdF_one q
theorem s_sr : ∀ (s : Sr) {X : Cx} {sc : Scope} {W : WX}, Ctx X L N sc W k Tb G F → ∀ tg e, chkS Tb N sc s tg e = true → PI X tg e (RdI L W (evi G F s))
  | .seq a, _, _, _, c, tg, e, h => i_seq c.toGood ((s_tm a).e c _ h)
  | .enum as, _, _, _, c, tg, e, h => by
    obtain ⟨q, e1, p, rfl, h1, h4, h5⟩ := x_enum h
    obtain ⟨es, j, p, rfl⟩ := xs_tup h1
    exact i_enum c.toGood c.mod h4 (by simpa using xs_plain h5) (s_tms as c _ h5)
  | .zip as, _, _, _, c, tg, e, h => by
    obtain ⟨q, e1, e2, p, rfl, h1, h4, h5⟩ := x_zip h
    obtain ⟨es, j, p, rfl⟩ := xs_tup h1
    have hs := xs_plain h5
    simp only [List.all_cons, List.all_nil, Bool.and_true, Bool.and_eq_true] at hs
    exact i_zip c.toGood c.mod h4 hs.1 hs.2 (s_tms as c _ h5)
  | .rng as, _, _, _, c, tg, e, h => by
    obtain ⟨q, es, p, rfl, h4, h5, h6⟩ := x_rng h
    have hs := xs_plain h5
    rcases h6 with ⟨a, rfl⟩ | ⟨a, b, rfl⟩ | ⟨a, b, d, rfl⟩
    · simp only [List.all_cons, List.all_nil, Bool.and_true] at hs
      exact i_rng1 c.toGood c.mod h4 h5 hs (s_tms as c _ h5)
    · simp only [List.all_cons, List.all_nil, Bool.and_true, Bool.and_eq_true] at hs
      exact i_rng2 c.toGood c.mod h4 h5 hs.1 hs.2 (s_tms as c _ h5)
    · simp only [List.all_cons, List.all_nil, Bool.and_true, Bool.and_eq_true] at hs
      exact i_rng3 c.toGood c.mod h4 h5 hs.1 hs.2.1 hs.2.2 (s_tms as c _ h5)
end
end
end Rf

set_option Elab.async false
set_option maxRecDepth 100000
set_option maxHeartbeats 1000000
/-! Rf, part M: which syntax a statement stands for. -/
namespace Rf
open PySem PySem.Spec PyProof.Rows L2

/-- a comprehension kept on one line -/
def swB (e tg : Expr) (sc : Scope) : Bool := match e, tg with
  | .ListComp _ _ s p, .Name t q => (sc.names.lookup t == some .local) && (q.line == p.line) && !(s.names.any fun (n, k) => n == t && (k == .local || k == .cell))
  | _, _ => false
def plainV : Expr → Bool
  | .SetComp _ _ _ _ => false
  | .DictComp _ _ _ _ _ => false
  | _ => true
def notComp : Expr → Bool
  | .ListComp _ _ _ _ => false
  | e => plainV e
def starB : Expr → Bool
  | .Starred _ _ => true
  | _ => false
def namesL (ts : List Expr) (sc : Scope) : List Str := ts.filterMap fun
  | .Name id pos => if sc.names.lookup id == some .local && pos.line == (ts.head?.map (·.pos.line)).getD 0 then some id else none
  | _ => none
/-- names stored from the right -/
def swpB (ts vs : List Expr) (sc : Scope) : Option (Option (List Str)) :=
  if (!(ts.length == 2 || ts.length == 3) || vs.length != ts.length) = true then some none
  else if vs.any starB = true then some none
  else if ((namesL ts sc).length != ts.length || (namesL ts sc).eraseDups.length != (namesL ts sc).length) = true then some none
  else if vs.all (foldedForSure 8) = true then some none
  else if vs.all (constantsAlone 8) = true then none
  else some (some (namesL ts sc))
def swpT (tg e : Expr) (sc : Scope) : Option (Option (List Str)) := match tg, e with
  | .Tuple ts _ _, .Tuple vs _ _ => swpB ts vs sc
  | .List _ _, .Tuple _ _ _ => none
  | _, _ => some none
/-- a clause's suite: one plain statement -/
def hndB (k : Cst) : Expr → Bool
  | .Constant c _ _ => cstB k c
  | _ => false
def hndS : St → Stmt → Bool
  | .cont, s => (match s with
    | .Continue _ => true
    | _ => false)
  | .brk, s => (match s with
    | .Break _ => true
    | _ => false)
  | .pass, s => (match s with
    | .Pass _ => true
    | _ => false)
  | .retN, s => (match s with
    | .Return none _ => true
    | _ => false)
  | .ret (.cst k), s => (match s with
    | .Return (some e) _ => hndB k e
    | _ => false)
  | _, _ => false
def chkH : Sts → List Stmt → Bool
  | .cons a .nil, [s] => hndS a s
  | _, _ => false
def nmL : List Expr → Option (List Str)
  | [] => some []
  | e :: r => (match e with
    | .Name x _ => (nmL r).map (x :: ·)
    | _ => none)
def clsB (Tb : Tabs) (sc : Scope) (c : Nat) (x : Str) : Bool := glB sc x && (okN x && decide (Tb.excs[c]? = some x))

/-! ### suites of named clauses -/
/-- the fields as they stand: the last one first -/
def flR (Tb : Tabs) (c : Nat) : List Str := ((Tb.flds[c]?).getD []).reverse
def fldB (fl : List Str) (en : Option Str) (j : Nat) : Expr → Bool
  | .Attribute e f _ => decide (fl[j]? = some f) && (match e with
    | .Name x _ => decide (en = some x)
    | _ => false)
  | _ => false
def empB : Expr → Bool
  | .Tuple es _ _ => es.isEmpty
  | _ => false
def haB (fl : List Str) (en : Option Str) : Ha → Expr → Bool
  | .cst k, e => hndB k e
  | .fld j, e => fldB fl en j e
  | .emp, e => empB e
def haBs (fl : List Str) (en : Option Str) : List Ha → List Expr → Bool
  | [], es => es.isEmpty
  | x :: r, es => (match es with
    | e :: er => haB fl en x e && haBs fl en r er
    | [] => false)
def tplB (f : List Expr → Bool) : Expr → Bool
  | .Tuple es _ _ => decide (es.length ≤ 1000) && f es
  | _ => false
def htB (fl : List Str) (en : Option Str) : Ht → Expr → Bool
  | .at_ x, e => haB fl en x e
  | .tup xs, e => tplB (haBs fl en xs) e
def ret1B (f : Expr → Bool) : List Stmt → Bool
  | [.Return (some e) _] => f e
  | _ => false
def hcmpB (ne : Bool) (f g : Expr → Bool) : Expr → Bool
  | .Compare l os rs _ => (match os, rs with
    | [o], [r] => (match o with
      | .Eq => !ne
      | .NotEq => ne
      | _ => false) && (f l && (g r && !behindInMarks o r))
    | _, _ => false)
  | _ => false
def htupT (a b : Expr) (f : List Expr → List Expr → Bool) : Bool := match a with
  | .Tuple es _ _ => (match b with
    | .Tuple vs _ _ => f es vs
    | _ => false)
  | _ => false
def ht2B (f g : Expr → Bool) : List Expr → Bool
  | [a, b] => f a && g b
  | _ => false
def hparB (N : List Str) (sc : Scope) (nm : Option Nat) (i j : Nat) (f g : Expr → Bool) (es vs : List Expr) : Bool := match nmL es with
  | some xs => decide ([N[i]?, N[j]?] = xs.map some) && (xs.all (fun x => decide (sc.names.lookup x = some .local)) && (decide (i ≠ j) && (decide (nm ≠ some i ∧ nm ≠ some j) && (ht2B f g vs && decide (swpB es vs sc = some (some xs))))))
  | none => false
def hsB (N : List Str) (sc : Scope) (fl : List Str) (en : Option Str) (nm : Option Nat) : Hs → Stmt → Bool
  | .ret t, s => (match s with
    | .Return (some e) _ => htB fl en t e
    | _ => false)
  | .cont, s => hndS .cont s
  | .brk, s => hndS .brk s
  | .pass, s => hndS .pass s
  | .retN, s => hndS .retN s
  | .set i t, s => (match s with
    | .Assign ts e _ => (match ts with
      | [tg] => (match tg with
        | .Name x _ => decide (N[i]? = some x) && (decide (sc.names.lookup x = some .local) && (decide (nm ≠ some i) && (htB fl en t e && (plainV e && !swB e tg sc))))
        | _ => false)
      | _ => false)
    | _ => false)
  | .par i j t u, s => (match s with
    | .Assign ts e _ => (match ts with
      | [tg] => htupT tg e (hparB N sc nm i j (htB fl en t) (htB fl en u))
      | _ => false)
    | _ => false)
  | .cmpr ne a b k, s => (match s with
    | .If e xs ys _ => ys.isEmpty && (hcmpB ne (htB fl en a) (htB fl en b) e && ret1B (hndB k) xs)
    | _ => false)
def nmOB (N : List Str) (sc : Scope) : Option Str → Option Nat → Bool
  | none, none => true
  | some x, some i => decide (N[i]? = some x) && (decide (sc.names.lookup x = some .local) && okN x)
  | _, _ => false
def clauB (Tb : Tabs) (N : List Str) (sc : Scope) (q : Clau) : ExceptHandler → Bool
  | .ExceptHandler t en ys _ => nmOB N sc en q.nm && ((match t with
    | some e => (match e with
      | .Name x _ => clsB Tb sc q.c x
      | _ => false)
    | none => false) && (match ys with
    | [s] => hsB N sc (flR Tb q.c) en q.nm q.h s
    | _ => false))
def clausB (Tb : Tabs) (N : List Str) (sc : Scope) : List Clau → List ExceptHandler → Bool
  | [], hs => hs.isEmpty
  | q :: r, hs => (match hs with
    | h :: hr => clauB Tb N sc q h && clausB Tb N sc r hr
    | [] => false)
section
variable (Tb : Tabs) (N : List Str) (sc : Scope)
def parB (is : List Nat) (ts : Tms) (es vs : List Expr) : Bool := match nmL es with
  | some xs => decide (is.map (N[·]?) = xs.map some) && (xs.all (fun x => decide (sc.names.lookup x = some .local)) && (decide is.Nodup && ((decide (is.length = 2) || decide (is.length = 3)) && (chks Tb N sc ts vs && decide (swpB es vs sc = some (some xs))))))
  | none => false
def setB (tg : Tg) (t : Tm) (tgE e : Expr) : Bool := notStar tgE && (chkG N sc (fun _ => true) tg tgE && (chk Tb N sc t false e && (plainV e && (if swB e tgE sc then true else decide (swpT tgE e sc = some none)))))
def subB (o i : Tm) : Expr → Bool
  | .Subscript eo ei _ => chk Tb N sc o false eo && (chk Tb N sc i false ei && plainI ei)
  | _ => false
def sub2B (f g : Expr → Bool) : List Expr → Bool
  | [a, b] => f a && g b
  | _ => false
def swpS (o i p j t : Tm) (a e : Expr) : Bool := (match a with
  | .Tuple es _ _ => sub2B (subB Tb N sc o i) (subB Tb N sc p j) es
  | _ => false) && (chk Tb N sc t false e && (plainV e && (!swB e a sc && decide (swpT a e sc = some none))))
def augB (i : Nat) : Expr → Bool
  | .Name x _ => decide (N[i]? = some x) && stoB sc (fun _ => true) x
  | _ => false
def docB : Expr → Bool
  | .Constant c _ _ => (match c with
    | .str _ => true
    | _ => false)
  | _ => false
def rzB (c : Nat) : Expr → Bool
  | .Call f as ks _ => as.isEmpty && (ks.isEmpty && (match f with
    | .Name x _ => decide (c < Tb.bare) && clsB Tb sc c x
    | _ => false))
  | _ => false
/-- with its words -/
def rzB2 (c : Nat) (as : Tms) : Expr → Bool
  | .Call f es ks _ => ks.isEmpty && (!es.isEmpty && (chks Tb N sc as es && (decide (es.length = ((Tb.flds[c]?).getD []).length) && (match f with
    | .Name x _ => decide (Tb.bare ≤ c) && clsB Tb sc c x
    | _ => false))))
  | _ => false
def onlyB (c : Nat) (h : Sts) : List ExceptHandler → Bool
  | [.ExceptHandler (some e) none ys _] => (match e with
    | .Name x _ => clsB Tb sc c x && chkH h ys
    | _ => false)
  | _ => false
def setS (s : Stmt) (f : Expr → Expr → Bool) : Bool := match s with
  | .Assign ts e _ => (match ts with
    | [tg] => f tg e
    | _ => false)
  | _ => false
def tupT (a b : Expr) (f : List Expr → List Expr → Bool) : Bool := match a with
  | .Tuple es _ _ => (match b with
    | .Tuple vs _ _ => f es vs
    | _ => false)
  | _ => false
def augS (s : Stmt) (f : Expr → Operator → Expr → Bool) : Bool := match s with
  | .AugAssign tg o e _ => f tg o e
  | _ => false
def exprS (s : Stmt) (f : Expr → Bool) : Bool := match s with
  | .Expr e _ => f e
  | _ => false
def retS (s : Stmt) (f : Option Expr → Bool) : Bool := match s with
  | .Return e _ => f e
  | _ => false
def someB (o : Option Expr) (f : Expr → Bool) : Bool := match o with
  | some e => f e
  | none => false
def ifS (s : Stmt) (f : Expr → Bool) (g h : List Stmt → Bool) : Bool := match s with
  | .If e xs ys _ => f e && (g xs && h ys)
  | _ => false
def whilS (s : Stmt) (f : Expr → Bool) (g : List Stmt → Bool) : Bool := match s with
  | .While e xs zs _ => zs.isEmpty && (f e && g xs)
  | _ => false
def forS (s : Stmt) (f : Expr → Expr → Bool) (g : List Stmt → Bool) : Bool := match s with
  | .For tg it xs zs _ => zs.isEmpty && (f tg it && g xs)
  | _ => false
def brkS (s : Stmt) : Bool := match s with
  | .Break _ => true
  | _ => false
def contS (s : Stmt) : Bool := match s with
  | .Continue _ => true
  | _ => false
def passS (s : Stmt) : Bool := match s with
  | .Pass _ => true
  | .Expr e _ => docB e
  | _ => false
def rzS (s : Stmt) (f : Expr → Bool) : Bool := match s with
  | .Raise e c _ => c.isNone && someB e f
  | _ => false
def tryS (s : Stmt) (f : List ExceptHandler → Bool) (g : List Stmt → Bool) : Bool := match s with
  | .Try xs hs zs fs _ => zs.isEmpty && (fs.isEmpty && (f hs && g xs))
  | _ => false
def isNil : Tms → Bool
  | .nil => true
  | _ => false
def consS (ss : List Stmt) (f : Stmt → Bool) (g : List Stmt → Bool) : Bool := match ss with
  | s :: sr => f s && g sr
  | [] => false
mutual
def cS : St → Stmt → Bool
  | .set tg t, s => setS s fun a e => setB Tb N sc tg t a e
  | .par is ts, s => setS s fun a e => tupT a e fun es vs => parB Tb N sc is ts es vs
  | .setIx o i t, s => setS s fun a e => chk Tb N sc t false e && (plainV e && subB Tb N sc o i a)
  | .swp o i p j t, s => setS s fun a e => swpS Tb N sc o i p j t a e
  | .aug i op t, s => augS s fun a o e => augB N sc i a && (opB op o && ((op == .add || op == .sub) && chk Tb N sc t false e))
  | .augIx o i op t, s => augS s fun a oo e => subB Tb N sc o i a && (opB op oo && ((op == .add || op == .sub) && chk Tb N sc t false e))
  | .expr t, s => exprS s fun e => chk Tb N sc t false e && notComp e
  | .ret t, s => retS s fun o => someB o fun e => chk Tb N sc t false e
  | .retN, s => retS s fun o => o.isNone
  | .ife t a b, s => ifS s (fun e => chk Tb N sc t true e) (cSs a) (cSs b)
  | .whil t b, s => whilS s (fun e => chk Tb N sc t true e) (cSs b)
  | .for_ tg r b, s => forS s (fun a it => chkS Tb N sc r a it && (plainS it && chkG N sc (fun _ => true) tg a)) (cSs b)
  | .brk, s => brkS s
  | .cont, s => contS s
  | .pass, s => passS s
  | .stop, _ => true
  | .raise c as, s => if isNil as then rzS s (rzB Tb sc c) else rzS s (rzB2 Tb N sc c as)
  | .tryo b c h, s => tryS s (onlyB Tb sc c h) (cSs b)
  | .tryx b cl, s => tryS s (fun hs => !cl.isEmpty && clausB Tb N sc cl hs) (cSs b)
def cSs : Sts → List Stmt → Bool
  | .nil, ss => ss.isEmpty
  | .cons a r, ss => consS ss (cS a) (cSs r)
end
end
end Rf

set_option Elab.async false
set_option maxRecDepth 100000
set_option maxHeartbeats 1000000
/-! Rf, part N: a statement that is checked runs as it is told. -/
namespace Rf
open PySem PySem.Spec PyProof.Rows L2

/-! ### inversions -/
section
variable {Tb : Tabs} {N : List Str} {sc : Scope}
theorem v_set {f : Expr → Expr → Bool} : ∀ {s : Stmt}, setS s f = true → ∃ a e pos, s = .Assign [a] e pos ∧ f a e = true := by
  intro s h
  unfold setS at h
  split at h
  · split at h
    · exact ⟨_, _, _, rfl, h⟩
    · cases h
  · cases h
theorem v_tup {f : List Expr → List Expr → Bool} {a b : Expr} (h : tupT a b f = true) : ∃ es k1 p1 vs k2 p2, a = .Tuple es k1 p1 ∧ b = .Tuple vs k2 p2 ∧ f es vs = true := by
  unfold tupT at h
  split at h
  · split at h
    · exact ⟨_, _, _, _, _, _, rfl, rfl, h⟩
    · cases h
  · cases h
theorem v_aug {s : Stmt} {f : Expr → Operator → Expr → Bool} (h : augS s f = true) : ∃ a o e pos, s = .AugAssign a o e pos ∧ f a o e = true := by
  unfold augS at h
  split at h
  · exact ⟨_, _, _, _, rfl, h⟩
  · cases h
theorem v_expr {s : Stmt} {f : Expr → Bool} (h : exprS s f = true) : ∃ e pos, s = .Expr e pos ∧ f e = true := by
  unfold exprS at h
  split at h
  · exact ⟨_, _, rfl, h⟩
  · cases h
theorem v_ret {s : Stmt} {f : Option Expr → Bool} (h : retS s f = true) : ∃ e pos, s = .Return e pos ∧ f e = true := by
  unfold retS at h
  split at h
  · exact ⟨_, _, rfl, h⟩
  · cases h
theorem v_some {o : Option Expr} {f : Expr → Bool} (h : someB o f = true) : ∃ e, o = some e ∧ f e = true := by
  cases o with
  | none => cases h
  | some e => exact ⟨e, rfl, h⟩
theorem v_none {o : Option Expr} (h : o.isNone = true) : o = none := by
  cases o with
  | none => rfl
  | some e => cases h
theorem v_if {s : Stmt} {f : Expr → Bool} {g k : List Stmt → Bool} (h : ifS s f g k = true) : ∃ e xs ys pos, s = .If e xs ys pos ∧ f e = true ∧ g xs = true ∧ k ys = true := by
  unfold ifS at h
  split at h
  · exact ⟨_, _, _, _, rfl, (bA h).1, bA (bA h).2⟩
  · cases h
theorem v_emp {α : Type} {l : List α} (h : l.isEmpty = true) : l = [] := by
  cases l with
  | nil => rfl
  | cons a l => cases h
theorem v_whil {s : Stmt} {f : Expr → Bool} {g : List Stmt → Bool} (h : whilS s f g = true) : ∃ e xs pos, s = .While e xs [] pos ∧ f e = true ∧ g xs = true := by
  unfold whilS at h
  split at h
  · obtain ⟨h1, h2⟩ := bA h
    rw [v_emp h1]
    exact ⟨_, _, _, rfl, bA h2⟩
  · cases h
theorem v_for {s : Stmt} {f : Expr → Expr → Bool} {g : List Stmt → Bool} (h : forS s f g = true) : ∃ a it xs pos, s = .For a it xs [] pos ∧ f a it = true ∧ g xs = true := by
  unfold forS at h
  split at h
  · obtain ⟨h1, h2⟩ := bA h
    rw [v_emp h1]
    exact ⟨_, _, _, _, rfl, bA h2⟩
  · cases h
theorem v_brk {s : Stmt} (h : brkS s = true) : ∃ pos, s = .Break pos := by
  unfold brkS at h
  split at h
  · exact ⟨_, rfl⟩
  · cases h
theorem v_cont {s : Stmt} (h : contS s = true) : ∃ pos, s = .Continue pos := by
  unfold contS at h
  split at h
  · exact ⟨_, rfl⟩
  · cases h
theorem v_pass {s : Stmt} (h : passS s = true) : (∃ pos, s = .Pass pos) ∨ ∃ e pos, s = .Expr e pos ∧ docB e = true := by
  unfold passS at h
  split at h
  · exact .inl ⟨_, rfl⟩
  · exact .inr ⟨_, _, rfl, h⟩
  · cases h
theorem v_doc {e : Expr} (h : docB e = true) : ∃ x j p, e = .Constant (.str x) j p := by
  unfold docB at h
  split at h
  · split at h
    · exact ⟨_, _, _, rfl⟩
    · cases h
  · cases h
theorem v_rz {s : Stmt} {f : Expr → Bool} (h : rzS s f = true) : ∃ e pos, s = .Raise (some e) none pos ∧ f e = true := by
  unfold rzS at h
  split at h
  · obtain ⟨h1, h2⟩ := bA h
    obtain ⟨e, rfl, h3⟩ := v_some h2
    rw [v_none h1]
    exact ⟨_, _, rfl, h3⟩
  · cases h
theorem v_try {s : Stmt} {f : List ExceptHandler → Bool} {g : List Stmt → Bool} (h : tryS s f g = true) : ∃ xs hs pos, s = .Try xs hs [] [] pos ∧ f hs = true ∧ g xs = true := by
  unfold tryS at h
  split at h
  · obtain ⟨h1, h2⟩ := bA h
    obtain ⟨h3, h4⟩ := bA h2
    rw [v_emp h1, v_emp h3]
    exact ⟨_, _, _, rfl, bA h4⟩
  · cases h
theorem v_cons {ss : List Stmt} {f : Stmt → Bool} {g : List Stmt → Bool} (h : consS ss f g = true) : ∃ s sr, ss = s :: sr ∧ f s = true ∧ g sr = true := by
  cases ss with
  | nil => cases h
  | cons s sr => exact ⟨s, sr, rfl, bA h⟩
theorem v_sub {o i : Tm} {e : Expr} (h : subB Tb N sc o i e = true) : ∃ eo ei sp, e = .Subscript eo ei sp ∧ chk Tb N sc o false eo = true ∧ chk Tb N sc i false ei = true ∧ plainI ei = true := by
  unfold subB at h
  split at h
  · exact ⟨_, _, _, rfl, (bA h).1, bA (bA h).2⟩
  · cases h
theorem v_swp {o i p j t : Tm} {a e : Expr} (h : swpS Tb N sc o i p j t a e = true) : ∃ eo ei s1 ep ej s2 k1 q1, a = .Tuple [.Subscript eo ei s1, .Subscript ep ej s2] k1 q1 ∧ chk Tb N sc o false eo = true ∧ chk Tb N sc i false ei = true ∧ plainI ei = true ∧ chk Tb N sc p false ep = true ∧ chk Tb N sc j false ej = true ∧ plainI ej = true ∧
    chk Tb N sc t false e = true ∧ plainV e = true ∧ swB e a sc = false ∧ swpT a e sc = some none := by
  unfold swpS at h
  obtain ⟨h1, h⟩ := bA h
  obtain ⟨h2, h⟩ := bA h
  obtain ⟨h3, h⟩ := bA h
  obtain ⟨h4, h5⟩ := bA h
  split at h1
  · unfold sub2B at h1
    split at h1
    · obtain ⟨g1, g2⟩ := bA h1
      obtain ⟨eo, ei, s1, rfl, a1, a2, a3⟩ := v_sub g1
      obtain ⟨ep, ej, s2, rfl, b1, b2, b3⟩ := v_sub g2
      exact ⟨eo, ei, s1, ep, ej, s2, _, _, rfl, a1, a2, a3, b1, b2, b3, h2, h3, by simpa using h4, of_decide_eq_true h5⟩
    · cases h1
  · cases h1
theorem v_augN {i : Nat} {e : Expr} (h : augB N sc i e = true) : ∃ x p, e = .Name x p ∧ N[i]? = some x ∧ stoB sc (fun _ => true) x = true := by
  unfold augB at h
  split at h
  · exact ⟨_, _, rfl, of_decide_eq_true (bA h).1, (bA h).2⟩
  · cases h
theorem v_rzB {c : Nat} {e : Expr} (h : rzB Tb sc c e = true) : ∃ x p q, e = .Call (.Name x p) [] [] q ∧ c < Tb.bare ∧ clsB Tb sc c x = true := by
  unfold rzB at h
  split at h
  · obtain ⟨h1, h2⟩ := bA h
    obtain ⟨h3, h4⟩ := bA h2
    rw [v_emp h1, v_emp h3]
    split at h4
    · exact ⟨_, _, _, rfl, of_decide_eq_true (bA h4).1, (bA h4).2⟩
    · cases h4
  · cases h
theorem v_only {c : Nat} {hh : Sts} {hs : List ExceptHandler} (h : onlyB Tb sc c hh hs = true) : ∃ x np ys hp, hs = [.ExceptHandler (some (.Name x np)) none ys hp] ∧ clsB Tb sc c x = true ∧ chkH hh ys = true := by
  unfold onlyB at h
  split at h
  · split at h
    · exact ⟨_, _, _, _, rfl, bA h⟩
    · cases h
  · cases h
theorem nmL_cons {e : Expr} {r : List Expr} {xs : List Str} (h : nmL (e :: r) = some xs) : ∃ x p ys, e = .Name x p ∧ nmL r = some ys ∧ xs = x :: ys := by
  cases e <;> first
    | (exact absurd (show (none : Option (List Str)) = some xs from h) (by simp))
    | (rename_i x p
       obtain ⟨ys, h1, h2⟩ := Option.map_eq_some_iff.mp (show (nmL r).map (x :: ·) = some xs from h)
       exact ⟨x, p, ys, rfl, h1, h2.symm⟩)
theorem nmL_nil {r : List Expr} (h : nmL r = some []) : r = [] := by
  cases r with
  | nil => rfl
  | cons e r => obtain ⟨_, _, _, _, _, z⟩ := nmL_cons h; cases z
end

/-! ### what is wanted behind a statement -/
section
variable (L : Pl)
def Pout (W : WX) (m : List Addr) (H : Hp) (Dn : Ends) : Out → Prop
  | .nx σ' S' => ∀ τ' m' H', Gr m H m' H' → RS L.K L.fa m' S' H' → RE L.K L.fa m' H' σ' τ' → Dn.nx τ' H'
  | .brk σ' S' => ∀ τ' m' H', Gr m H m' H' → RS L.K L.fa m' S' H' → RE L.K L.fa m' H' σ' τ' → Dn.bk τ' H'
  | .cont σ' S' => ∀ τ' m' H', Gr m H m' H' → RS L.K L.fa m' S' H' → RE L.K L.fa m' H' σ' τ' → Dn.ct τ' H'
  | .ret d S' => ∀ v m' H', Gr m H m' H' → RS L.K L.fa m' S' H' → Rp L.K L.fa m' H' d v → Dn.rt v H'
  | .ex e σ' S' => ∀ cls dd τ' m' H', Gr m H m' H' → RS L.K L.fa m' S' H' → RE L.K L.fa m' H' σ' τ' → RX L m' H' e cls dd → W cls dd τ' H'
  | .bad => False
def RdS (W : WX) (f : Env → Store → Out) : TS := fun Dn τ H => ∃ σ S m, RS L.K L.fa m S H ∧ RE L.K L.fa m H σ τ ∧ Pout L W m H Dn (f σ S)
end
section
variable {L : Pl} {α β : Type} {R : List Addr → Hp → α → β → Prop} {W W' : WX} {m m' : List Addr} {H H' : Hp} {Dn Dn' : Ends} {o : Out} {S : Store} {σ : Env} {τ : L2.St}
theorem Pout.step (g : Gr m H m' H') (p : Pout L W m H Dn o) : Pout L W m' H' Dn o := by
  cases o with
  | nx σ S => exact fun τ m2 H2 g2 => p τ m2 H2 (g.trans g2)
  | brk σ S => exact fun τ m2 H2 g2 => p τ m2 H2 (g.trans g2)
  | cont σ S => exact fun τ m2 H2 g2 => p τ m2 H2 (g.trans g2)
  | ret d S => exact fun v m2 H2 g2 => p v m2 H2 (g.trans g2)
  | ex e σ S => exact fun c d τ m2 H2 g2 => p c d τ m2 H2 (g.trans g2)
  | bad => exact p
/-- behind an expression -/
theorem Pout.of {r : Res α} {f : α → Store → Out} (rs : RS L.K L.fa m S H) (re : RE L.K L.fa m H σ τ) (p : Pout L W m H Dn (r.out σ f)) : Pst L R W τ m H (fun v H1 => ∃ a S1 m1, Gr m H m1 H1 ∧ RS L.K L.fa m1 S1 H1 ∧ R m1 H1 a v ∧ Pout L W m1 H1 Dn (f a S1)) r := by
  cases r with
  | ok a S' => exact fun v m2 H2 g2 rs2 r2 => ⟨a, S', m2, g2, rs2, r2, Pout.step g2 p⟩
  | ex e S' => exact fun c d m2 H2 g2 rs2 rx => p c d τ m2 H2 g2 rs2 (re.mono g2 rs) rx
  | bad => exact p
/-- behind a test -/
theorem Pout.test {r : Res D} {f : D → Store → Out} (rs : RS L.K L.fa m S H) (re : RE L.K L.fa m H σ τ) (hb : ∀ d S, (∀ b, d ≠ .c (.bl b)) → f d S = .bad) (p : Pout L W m H Dn (r.out σ f)) :
    Pst L (fun _ _ (a b : Bool) => a = b) W τ m H (fun b H1 => ∃ S1 m1, Gr m H m1 H1 ∧ RS L.K L.fa m1 S1 H1 ∧ Pout L W m1 H1 Dn (f (.c (.bl b)) S1)) (asB r) := by
  unfold asB
  cases r with
  | ok d S' =>
    rw [bind_ok]
    split
    · exact fun v m2 H2 g2 rs2 e => by subst e; exact ⟨S', m2, g2, rs2, Pout.step g2 p⟩
    · rename_i hn
      have p : Pout L W m H Dn (f d S') := p
      rw [hb d S' hn] at p
      exact p
  | ex e S' => exact fun c d m2 H2 g2 rs2 rx => p c d τ m2 H2 g2 rs2 (re.mono g2 rs) rx
  | bad => exact p
/-- a block's first -/
theorem Pout.next {f : Env → Store → Out} (p : Pout L W m H Dn (o.next f)) : Pout L W m H { Dn with nx := fun τ H1 => ∃ σ S1 m1, RS L.K L.fa m1 S1 H1 ∧ RE L.K L.fa m1 H1 σ τ ∧ Pout L W m1 H1 Dn (f σ S1) } o := by
  cases o with
  | nx σ S => exact fun τ m2 H2 g2 rs re => ⟨σ, S, m2, rs, re, Pout.step g2 p⟩
  | brk σ S => exact p
  | cont σ S => exact p
  | ret d S => exact p
  | ex e σ S => exact p
  | bad => exact p
/-- a loop's body -/
theorem Pout.turn {g : Env → Store → Out} (p : Pout L W m H Dn (o.turn g)) {M : L2.St → Hp → Prop} (hM : ∀ σ S τ m1 H1, Gr m H m1 H1 → RS L.K L.fa m1 S H1 → RE L.K L.fa m1 H1 σ τ → Pout L W m1 H1 Dn (g σ S) → M τ H1) : Pout L W m H { Dn with nx := M, ct := M, bk := Dn.nx } o := by
  cases o with
  | nx σ S => exact fun τ m2 H2 g2 rs re => hM σ S τ m2 H2 g2 rs re (Pout.step g2 p)
  | cont σ S => exact fun τ m2 H2 g2 rs re => hM σ S τ m2 H2 g2 rs re (Pout.step g2 p)
  | brk σ S => exact p
  | ret d S => exact p
  | ex e σ S => exact p
  | bad => exact p
theorem ps_weak {X : Cx} {s : Stmt} {t u : TS} (h : PS X s t) (hw : ∀ Dn τ H, u Dn τ H → t Dn τ H) : PS X s u := ⟨fun pins st σ H Dn I q => h.run pins st σ H Dn I (hw _ _ _ q)⟩
theorem pss_weak {X : Cx} {s : List Stmt} {t u : TS} (h : PSs X s t) (hw : ∀ Dn τ H, u Dn τ H → t Dn τ H) : PSs X s u := ⟨fun pins st σ H Dn I q => h.run pins st σ H Dn I (hw _ _ _ q)⟩
end
end Rf

set_option Elab.async false
set_option maxRecDepth 100000
set_option maxHeartbeats 1000000
/-! Rf, part O: statements. -/
namespace Rf
open PySem PySem.Spec PyProof.Rows L2

/-! ### swapped stores -/
section
variable {env : PySem.Env}
theorem blk_fn (hk : env.scope.kind = .function) : env.blockKind = .function := by
  unfold PySem.Env.blockKind
  rw [hk]
  rfl
theorem sw_eq {e tg : Expr} {l : Nat} (hk : env.scope.kind = .function) (hv : plainV e = true) : swapsWith e (some tg) l env = pure (swB e tg env.scope) := by
  cases e <;> first
    | rfl
    | (exact absurd (show false = true from hv) Bool.false_ne_true)
    | (cases tg <;> first
        | rfl
        | (unfold swapsWith swB
           simp only [blk_fn hk]
           rfl))
theorem star_fn : (fun e : Expr => match e with | .Starred .. => true | _ => false) = starB := by
  funext e
  cases e <;> rfl
theorem swp_eq {ts vs : List Expr} {k1 k2 : Nat} {p1 p2 : Pos} {r : Option (List Str)} (hk : env.scope.kind = .function) (h : swpB ts vs env.scope = some r) : swappedStores [.Tuple ts k1 p1] (.Tuple vs k2 p2) env = pure r := by
  unfold swappedStores
  have hb := blk_fn hk
  unfold swpB at h
  dsimp only
  rw [hb]
  have e1 : (ScopeKind.function != ScopeKind.function) = false := by decide
  rw [e1, Bool.or_false]
  have e2 : ∀ f : Expr → Bool, (∀ e, f e = starB e) → vs.any f = vs.any starB := fun f hf => by rw [funext hf]
  split at h
  · rename_i c
    cases h
    rw [if_pos c]
  · rename_i c
    rw [if_neg c]
    split at h
    · rename_i c
      cases h
      refine if_pos ?_
      rw [e2 _ (fun e => by cases e <;> rfl)]
      exact c
    · rename_i c
      refine (if_neg ?_).trans ?_
      · rw [e2 _ (fun e => by cases e <;> rfl)]
        exact c
      split at h
      · rename_i c
        cases h
        exact if_pos c
      · rename_i c
        refine (if_neg c).trans ?_
        split at h
        · rename_i c
          cases h
          rw [if_pos c]
        · rename_i c
          rw [if_neg c]
          split at h
          · cases h
          · rename_i c
            cases h
            rw [if_neg c]
            rfl
theorem swt_eq {tg e : Expr} (hk : env.scope.kind = .function) (h : swpT tg e env.scope = some none) : swappedStores [tg] e env = pure none := by
  unfold swpT at h
  split at h
  · exact swp_eq hk h
  · cases h
  · rename_i n1 n2
    unfold swappedStores
    cases tg <;> first
      | rfl
      | (cases e <;> first | rfl | (exact absurd rfl (n1 _ _ _ _ _ _ rfl)) | (exact absurd rfl (n2 _ _ _ _ _ rfl)))
end
end Rf

set_option Elab.async false
set_option maxRecDepth 100000
set_option maxHeartbeats 1000000
/-! Rf, part Xf: suites of named clauses. -/
namespace Rf
open PySem PySem.Spec PyProof.Rows L2

/-- what the head says of exceptions with fields -/
structure XfOk (X : Cx) (L : Pl) : Prop where
  fld : ∀ (j : Nat) (cv : Value) (f : Str), L.ca j = some cv → f ∈ L.fl j → ∃ C, cv = .ref C ∧ XfC X.K C ∧ PySem.W.findIn X.K (.ref C) f = some none
  nd : ∀ j, (L.fl j).Nodup
section
variable {L : Pl} {m m' : List Addr} {H H' : Hp} {S : Store}
theorem RX.mono {e : Ex} {cls : Value} {dd : Option Addr} (g : Gr m H m' H') (r : RS L.K L.fa m S H) (h : RX L m H e cls dd) : RX L m' H' e cls dd := by
  obtain ⟨h1, h2⟩ := h
  refine ⟨h1, ?_⟩
  rcases h2 with h2 | ⟨d, fs, h3, h4, h5, h6⟩
  · exact .inl h2
  · refine .inr ⟨d, fs, h3, g.keep d _ h4 fun hm => ?_, h5, h6.mono g r⟩
    rcases r.mem hm with ⟨xs, e⟩ | ⟨ws, e⟩ <;> (rw [e] at h4; cases h4)
theorem lookup_at {f : Str} {v : V} : ∀ {fs : List (Str × V)} {j : Nat}, (fs.map (·.1)).Nodup → (fs.map (·.1))[j]? = some f → (fs.map (·.2))[j]? = some v → fs.lookup f = some v := by
  intro fs
  induction fs with
  | nil => intro j _ h; simp at h
  | cons q l ih =>
    intro j nd h1 h2
    obtain ⟨g, w⟩ := q
    cases j with
    | zero =>
      simp at h1 h2
      subst h1 h2
      simp [List.lookup]
    | succ j =>
      rw [List.map_cons, List.nodup_cons] at nd
      have h1' : (l.map (·.1))[j]? = some f := by simpa using h1
      have h2' : (l.map (·.2))[j]? = some v := by simpa using h2
      have ne : (f == g) = false := by
        refine beq_eq_false_iff_ne.mpr fun e => nd.1 ?_
        rw [← show f = g from e]
        exact List.mem_of_getElem? h1'
      simp only [List.lookup, ne]
      exact ih nd.2 h1' h2'
end

section
variable {X : Cx} {L : Pl} {a : Addr} {oe : Obj} {cls : Value} {d : Option Addr} {pn : List (Addr × Obj)} {fl : List Str} {en : Option Str} {nm : Option Nat}
/-- in a suite: what is caught stands in the name's slot -/
def InS (L : Pl) (a : Addr) (cls : Value) (d : Option Addr) (fl : List Str) (nm : Option Nat) (m : List Addr) (S : Store) (H : Hp) (σ : Env) (τ : L2.St) (e : Ex) : Prop :=
  RS L.K L.fa m S H ∧ RE L.K L.fa m H σ τ ∧ (∀ i, nm = some i → τ[i]? = some (some (.ref a))) ∧ RX L m H e cls d ∧ (fl ≠ [] → L.fl e.cls = fl)
theorem InS.grow {m m' : List Addr} {S : Store} {H H' : Hp} {σ : Env} {τ : L2.St} {e : Ex} (i : InS L a cls d fl nm m S H σ τ e) (g : Gr m H m' H') (rs : RS L.K L.fa m' S H') : InS L a cls d fl nm m' S H' σ τ e :=
  ⟨rs, i.2.1.mono g i.1, i.2.2.1, i.2.2.2.1.mono g i.1, i.2.2.2.2⟩
def RdHx {α β : Type} (R : List Addr → Hp → α → β → Prop) (L : Pl) (a : Addr) (cls : Value) (d : Option Addr) (fl : List Str) (nm : Option Nat) (f : List D → Option α) : L2.St → Hp → (β → Hp → Prop) → Prop :=
  fun τ H Q => ∃ (m : List Addr) (S : Store) (σ : Env) (e : Ex) (x : α), InS L a cls d fl nm m S H σ τ e ∧ f e.args = some x ∧ ∀ v m' H', Gr m H m' H' → RS L.K L.fa m' S H' → R m' H' x v → Q v H'
/-- the name, where it stands -/
structure NmOk (X : Cx) (en : Option Str) (nm : Option Nat) : Prop where
  at_ : ∀ x, en = some x → ∃ i, nm = some i ∧ X.N[i]? = some x ∧ Vis X.env.scope x ∧ (x == ("__debug__" : Str)) = false ∧ (x == ("__classdict__" : Str)) = false
theorem fldB_ok {j : Nat} {e : Expr} (h : fldB fl en j e = true) : ∃ x p f q, e = .Attribute (.Name x p) f q ∧ fl[j]? = some f ∧ en = some x := by
  unfold fldB at h
  split at h
  · obtain ⟨h1, h2⟩ := bA h
    split at h2
    · exact ⟨_, _, _, _, rfl, of_decide_eq_true h1, of_decide_eq_true h2⟩
    · cases h2
  · cases h
theorem empB_ok {e : Expr} (h : empB e = true) : ∃ k p, e = .Tuple [] k p := by
  unfold empB at h
  split at h
  · rw [v_emp h]
    exact ⟨_, _, rfl⟩
  · cases h
theorem pe_ha (xo : XfOk X L) (no : NmOk X en nm) (hz : L2N.Zn cls d oe) (hf : ∃ vs, oe.data = .fields vs) (x : Ha) (e : Expr) (h : haB fl en x e = true) : PE (X.suite a ((a, oe) :: pn)) e (RdHx (Rp L.K L.fa) L a cls d fl nm (fun as => haD as x)) := by
  cases x with
  | cst k =>
    have h1 : hndB k e = true := h
    unfold hndB at h1
    split at h1
    · have fin : ∀ τ H Q, RdHx (Rp L.K L.fa) L a cls d fl nm (fun as => haD as (.cst k)) τ H Q → tC (cV k) τ H Q := fun τ H Q ⟨m, S, σ, ee, y, i, e1, q⟩ => by
        cases e1
        exact q _ m H (.refl _ _) i.1 (.c k)
      rename_i c _ _
      unfold cstB at h1
      split at h1
      · exact PE.weak pe_non fin
      · rename_i b b'
        obtain rfl : b = b' := eq_of_beq h1
        exact PE.weak pe_bl fin
      · rename_i b b'
        obtain rfl : b = b' := of_decide_eq_true h1
        exact PE.weak pe_int fin
      · rename_i b b'
        obtain rfl : b = b' := of_decide_eq_true h1
        exact PE.weak pe_str fin
      · cases h1
    · cases h1
  | emp =>
    obtain ⟨k, p, rfl⟩ := empB_ok h
    refine PE.weak (pe_tup pa_nil) fun τ H Q ⟨m, S, σ, ee, y, i, e1, q⟩ => ?_
    cases e1
    exact ⟨Nat.zero_le _, fun r hr => q _ m _ (Gr.push hr) (i.1.push hr) (.tup (.inl (.inl upd_same)) (Nat.zero_le _) .nil)⟩
  | fld j =>
    obtain ⟨x, p, f, q, rfl, hj, rfl⟩ := fldB_ok h
    obtain ⟨i, rfl, n1, n2, n3, n4⟩ := no.at_ x rfl
    by_cases hc : ∃ jj, L.ca jj = some cls ∧ f ∈ L.fl jj
    · obtain ⟨jj, c1, c2⟩ := hc
      obtain ⟨C, rfl, T, hno⟩ := xo.fld jj cls f c1 c2
      have pv : PE (X.suite a ((a, oe) :: pn)) (.Name x p) (tVar i) := pe_var n1 n2 n3 n4
      refine PE.weak (pe_xf T hno hz.zc hf pv) fun τ H Q ⟨m, S, σ, ee, y, ins, e1, q⟩ => ?_
      obtain ⟨i1, i2, i3, ⟨i4, i5⟩, i6⟩ := ins
      refine ⟨_, i3 i rfl, rfl, rfl, ?_⟩
      rcases i5 with ⟨z, _⟩ | ⟨dd, fs, z1, z2, z3, z4⟩
      · have e1 : ee.args[j]? = some y := e1
        rw [z] at e1
        cases e1
      · obtain ⟨v, v1, v2⟩ := z4.get (show ee.args[j]? = some y from e1)
        refine ⟨dd, fs, v, z1, z2, lookup_at (j := j) ?_ ?_ v1, q v m H (.refl _ _) i1 v2⟩
        · rw [z3]
          exact xo.nd _
        · rw [z3, i6 (fun z => by rw [z] at hj; cases hj)]
          exact hj
    · refine ⟨fun pins s τ H Q I ⟨m, S, σ, ee, y, ins, e1, q⟩ => ?_⟩
      refine absurd ⟨ee.cls, ins.2.2.2.1.1, ?_⟩ hc
      rw [ins.2.2.2.2 (fun z => by rw [z] at hj; cases hj)]
      exact List.mem_of_getElem? hj
theorem pa_has (xo : XfOk X L) (no : NmOk X en nm) (hz : L2N.Zn cls d oe) (hf : ∃ vs, oe.data = .fields vs) : ∀ (xs : List Ha) (es : List Expr), haBs fl en xs es = true → es.length = xs.length ∧ PA (X.suite a ((a, oe) :: pn)) es (RdHx (RpL L.K L.fa) L a cls d fl nm (fun as => haDs as xs)) := by
  intro xs
  induction xs with
  | nil =>
    intro es h
    unfold haBs at h
    rw [v_emp h]
    refine ⟨rfl, ⟨fun pos pins s τ H Q I ⟨m, S, σ, ee, y, i, e1, q⟩ => ?_⟩⟩
    cases e1
    exact (pa_nil (X := X.suite a ((a, oe) :: pn))).run pos pins s τ H Q I (q _ m H (.refl _ _) i.1 .nil)
  | cons x r ih =>
    intro es h
    unfold haBs at h
    cases es with
    | nil => cases h
    | cons e er =>
      obtain ⟨h1, h2⟩ := bA (show (haB fl en x e && haBs fl en r er) = true from h)
      obtain ⟨l, pr⟩ := ih er h2
      have ns : notStar e = true := by
        cases x with
        | cst k =>
          have h1 : hndB k e = true := h1
          unfold hndB at h1
          split at h1
          · rfl
          · cases h1
        | emp =>
          obtain ⟨k, p, rfl⟩ := empB_ok h1
          rfl
        | fld j =>
          obtain ⟨_, _, _, _, rfl, _⟩ := fldB_ok h1
          rfl
      refine ⟨by rw [List.length_cons, List.length_cons, l], ⟨fun pos pins s τ H Q I ⟨m, S, σ, ee, y, i, e1, q⟩ => ?_⟩⟩
      obtain ⟨dx, e2, e3⟩ := Option.bind_eq_some_iff.mp (show ((haD ee.args x).bind fun d => (haDs ee.args r).map (d :: ·)) = some y from e1)
      obtain ⟨ds, e4, rfl⟩ := Option.map_eq_some_iff.mp e3
      refine (pa_cons (pe_ha xo no hz hf x e h1) pr (hs := star_cons ns)).run pos pins s τ H Q I ⟨m, S, σ, ee, dx, i, e2, fun v m1 H1 g1 rs1 r1 => ⟨m1, S, σ, ee, ds, i.grow g1 rs1, e4, fun vs m2 H2 g2 rs2 r2 => ?_⟩⟩
      exact q _ m2 H2 (g1.trans g2) rs2 (.cons (r1.mono g2 rs1) r2)
theorem pe_ht (xo : XfOk X L) (no : NmOk X en nm) (hz : L2N.Zn cls d oe) (hf : ∃ vs, oe.data = .fields vs) (t : Ht) (e : Expr) (h : htB fl en t e = true) : PE (X.suite a ((a, oe) :: pn)) e (RdHx (Rp L.K L.fa) L a cls d fl nm (fun as => htD as t)) := by
  cases t with
  | at_ x => exact pe_ha xo no hz hf x e h
  | tup xs =>
    have h1 : tplB (haBs fl en xs) e = true := h
    unfold tplB at h1
    split at h1
    · obtain ⟨h2, h3⟩ := bA h1
      obtain ⟨l, pa⟩ := pa_has (a := a) (pn := pn) xo no hz hf xs _ h3
      refine PE.weak (pe_tup pa) fun τ H Q ⟨m, S, σ, ee, y, i, e1, q⟩ => ?_
      obtain ⟨ds, e2, rfl⟩ := Option.map_eq_some_iff.mp (show (haDs ee.args xs).map D.tup = some y from e1)
      refine ⟨m, S, σ, ee, ds, i, e2, fun vs m1 H1 g1 rs1 rl => ?_⟩
      have len : vs.length ≤ sizeLine := by
        have : ∀ (xs : List Ha) (ds : List D), haDs ee.args xs = some ds → ds.length = xs.length := by
          intro xs
          induction xs with
          | nil => intro ds e; cases e; rfl
          | cons x r ih =>
            intro ds e
            obtain ⟨dx, e2, e3⟩ := Option.bind_eq_some_iff.mp (show ((haD ee.args x).bind fun d => (haDs ee.args r).map (d :: ·)) = some ds from e)
            obtain ⟨ds', e4, rfl⟩ := Option.map_eq_some_iff.mp e3
            rw [List.length_cons, List.length_cons, ih ds' e4]
        have l2 := this xs ds e2
        have l3 := rl.length
        have l4 := of_decide_eq_true h2
        rw [sizeLine_eq]
        omega
      exact ⟨len, fun r hr => q _ m1 _ (g1.trans (Gr.push hr)) (rs1.push hr) (.tup (.inl (.inl upd_same)) len (rl.mono (Gr.push hr) rs1))⟩
    · cases h1
end
end Rf

set_option Elab.async false
set_option maxRecDepth 100000
set_option maxHeartbeats 1000000
/-! Rf, part Xg: a named clause's suite. -/
namespace Rf
open PySem PySem.Spec PyProof.Rows L2
/-- what a suite does -/
def tsH (L : Pl) (fl : List Str) (nm : Option Nat) (h : Hs) (a : Addr) (cls : Value) (d : Option Addr) : TS := fun Dn τ H => ∃ (m : List Addr) (S : Store) (σ : Env) (e : Ex), InS L a cls d fl nm m S H σ τ e ∧ Pout L noW m H Dn (hexec e.args h σ S)
section
variable {X : Cx} {L : Pl} {a : Addr} {oe : Obj} {cls : Value} {d : Option Addr} {pn : List (Addr × Obj)} {fl : List Str} {en : Option Str} {nm : Option Nat} {N : List Str} {sc : Scope}
theorem hcmp_ok {ne : Bool} {f g : Expr → Bool} {e : Expr} (h : hcmpB ne f g e = true) : ∃ l o r p, e = .Compare l [o] [r] p ∧ ((o = .Eq ∧ ne = false) ∨ (o = .NotEq ∧ ne = true)) ∧ f l = true ∧ g r = true ∧ behindInMarks o r = false := by
  unfold hcmpB at h
  split at h
  · split at h
    · rename_i o r
      obtain ⟨h1, h2⟩ := bA h
      obtain ⟨h3, h4⟩ := bA h2
      obtain ⟨h5, h6⟩ := bA h4
      refine ⟨_, o, r, _, rfl, ?_, h3, h5, by simpa using h6⟩
      split at h1
      · exact .inl ⟨rfl, by simpa using h1⟩
      · exact .inr ⟨rfl, h1⟩
      · cases h1
    · cases h
  · cases h
theorem hnd_ok {k : Cst} {e : Expr} (h : hndB k e = true) : ∃ c j q, e = .Constant c j q ∧ cstB k c = true := by
  unfold hndB at h
  split at h
  · exact ⟨_, _, _, rfl, h⟩
  · cases h
theorem len2 {α : Type} {l : List α} (h : l.length = 2) : ∃ a b, l = [a, b] := by
  match l, h with
  | [a, b], _ => exact ⟨a, b, rfl⟩
theorem len3 {α : Type} {l : List α} (h : l.length = 3) : ∃ a b c, l = [a, b, c] := by
  match l, h with
  | [a, b, c], _ => exact ⟨a, b, c, rfl⟩
theorem nm2 {es : List Expr} {x y : Str} (h : nmL es = some [x, y]) : ∃ px py, es = [.Name x px, .Name y py] := by
  cases es with
  | nil => cases h
  | cons e r =>
    obtain ⟨x', px, ys, rfl, e2, e3⟩ := nmL_cons h
    cases e3
    cases r with
    | nil => cases e2
    | cons e r =>
      obtain ⟨y', py, zs, rfl, e4, e5⟩ := nmL_cons e2
      cases e5
      rw [nmL_nil e4]
      exact ⟨px, py, rfl⟩
theorem nm3 {es : List Expr} {x y z : Str} (h : nmL es = some [x, y, z]) : ∃ px py pz, es = [.Name x px, .Name y py, .Name z pz] := by
  cases es with
  | nil => cases h
  | cons e r =>
    obtain ⟨x', px, ys, rfl, e2, e3⟩ := nmL_cons h
    cases e3
    obtain ⟨py, pz, rfl⟩ := nm2 e2
    exact ⟨px, py, pz, rfl⟩
theorem ha_ns {x : Ha} {e : Expr} (h : haB fl en x e = true) : notStar e = true := by
  cases x with
  | cst k =>
    obtain ⟨_, _, _, rfl, _⟩ := hnd_ok (show hndB k e = true from h)
    rfl
  | emp =>
    obtain ⟨_, _, rfl⟩ := empB_ok h
    rfl
  | fld j =>
    obtain ⟨_, _, _, _, rfl, _⟩ := fldB_ok h
    rfl
theorem ht_ns {t : Ht} {e : Expr} (h : htB fl en t e = true) : notStar e = true := by
  cases t with
  | at_ x => exact ha_ns h
  | tup xs =>
    have h1 : tplB (haBs fl en xs) e = true := h
    unfold tplB at h1
    split at h1
    · rfl
    · cases h1
theorem hpar_ok {i j : Nat} {f g : Expr → Bool} {tg e : Expr} (h : htupT tg e (hparB N sc nm i j f g) = true) : ∃ x y px py k1 p1 a b k2 p2, tg = .Tuple [.Name x px, .Name y py] k1 p1 ∧ e = .Tuple [a, b] k2 p2 ∧ N[i]? = some x ∧ N[j]? = some y ∧ i ≠ j ∧ sc.names.lookup x = some .local ∧ sc.names.lookup y = some .local ∧
    f a = true ∧ g b = true ∧ swpB [.Name x px, .Name y py] [a, b] sc = some (some [x, y]) := by
  unfold htupT at h
  split at h
  · split at h
    · unfold hparB at h
      split at h
      · rename_i es _ _ _ vs _ _ xs hxs
        obtain ⟨h1, h⟩ := bA h
        obtain ⟨h2, h⟩ := bA h
        obtain ⟨h3, h⟩ := bA h
        obtain ⟨h4, h⟩ := bA h
        obtain ⟨h5, h6⟩ := bA h
        have h1 := of_decide_eq_true h1
        cases xs with
        | nil => simp at h1
        | cons x r =>
          cases r with
          | nil => simp at h1
          | cons y r =>
            cases r with
            | cons _ _ => simp at h1
            | nil =>
              simp only [List.map_cons, List.map_nil, List.cons.injEq, and_true] at h1
              obtain ⟨px, py, rfl⟩ := nm2 hxs
              unfold ht2B at h5
              split at h5
              · obtain ⟨h7, h8⟩ := bA h5
                exact ⟨x, y, px, py, _, _, _, _, _, _, rfl, rfl, h1.1, h1.2, of_decide_eq_true h3, of_decide_eq_true (List.all_eq_true.mp h2 x (by simp)), of_decide_eq_true (List.all_eq_true.mp h2 y (by simp)), h7, h8, of_decide_eq_true h6⟩
              · cases h5
      · cases h
    · cases h
  · cases h
theorem ret1_ok {f : Expr → Bool} {xs : List Stmt} (h : ret1B f xs = true) : ∃ e p, xs = [.Return (some e) p] ∧ f e = true := by
  unfold ret1B at h
  split at h
  · exact ⟨_, _, rfl, h⟩
  · cases h
/-- return a constant, anywhere -/
theorem p_retc {Y : Cx} {k : Cst} {e : Expr} {p : Pos} (h : hndB k e = true) : PS Y (.Return (some e) p) (fun Dn τ H => Dn.rt (cV k) H) := by
  obtain ⟨c, j, q, rfl, h1⟩ := hnd_ok h
  have fin : ∀ Dn τ H, Dn.rt (cV k) H → tRet (tC (cV k)) Dn τ H := fun Dn τ H z => z
  unfold cstB at h1
  split at h1
  · exact ps_weak (ps_ret pe_non) fin
  · rename_i b b'
    obtain rfl : b = b' := eq_of_beq h1
    exact ps_weak (ps_ret pe_bl) fin
  · rename_i b b'
    obtain rfl : b = b' := of_decide_eq_true h1
    exact ps_weak (ps_ret pe_int) fin
  · rename_i b b'
    obtain rfl : b = b' := of_decide_eq_true h1
    exact ps_weak (ps_ret pe_str) fin
  · cases h1
theorem p_hs (hN : X.N = N) (hnd : N.Nodup) (hsc : X.env.scope = sc) (hkf : sc.kind = .function) (hL : X.K = L.K) (hu : X.A.units + 200 < cLine) (xo : XfOk X L) (no : NmOk X en nm) (hz : L2N.Zn cls d oe) (hf : ∃ vs, oe.data = .fields vs) (h : Hs) (s : Stmt) (hb : hsB N sc fl en nm h s = true) :
    PS (X.suite a ((a, oe) :: pn)) s (tsH L fl nm h a cls d) := by
  cases h with
  | ret t =>
    simp only [hsB] at hb
    split at hb
    · refine ps_weak (ps_ret (pe_ht xo no hz hf t _ hb)) fun Dn τ H ⟨m, S, σ, e, i, p⟩ => ?_
      simp only [hexec] at p
      cases ht : htD e.args t with
      | none => rw [ht] at p; exact p.elim
      | some y =>
        rw [ht] at p
        exact ⟨m, S, σ, e, y, i, ht, fun v m1 H1 g1 rs1 r1 => p v m1 H1 g1 rs1 r1⟩
    · cases hb
  | cont =>
    simp only [hsB, hndS] at hb
    split at hb
    · exact ps_weak ps_continue fun Dn τ H ⟨m, S, σ, e, i, p⟩ => by simp only [hexec] at p; exact p τ m H (.refl _ _) i.1 i.2.1
    · cases hb
  | brk =>
    simp only [hsB, hndS] at hb
    split at hb
    · exact ps_weak ps_break fun Dn τ H ⟨m, S, σ, e, i, p⟩ => by simp only [hexec] at p; exact p τ m H (.refl _ _) i.1 i.2.1
    · cases hb
  | pass =>
    simp only [hsB, hndS] at hb
    split at hb
    · exact ps_weak ps_pass fun Dn τ H ⟨m, S, σ, e, i, p⟩ => by simp only [hexec] at p; exact p τ m H (.refl _ _) i.1 i.2.1
    · cases hb
  | retN =>
    simp only [hsB, hndS] at hb
    split at hb
    · exact ps_weak ps_retN fun Dn τ H ⟨m, S, σ, e, i, p⟩ => by simp only [hexec] at p; exact p _ m H (.refl _ _) i.1 (.c .non)
    · cases hb
  | set j t =>
    simp only [hsB] at hb
    split at hb
    · split at hb
      · split at hb
        · rename_i x px
          obtain ⟨h1, hb⟩ := bA hb
          obtain ⟨h2, hb⟩ := bA hb
          obtain ⟨h3, hb⟩ := bA hb
          obtain ⟨h4, hb⟩ := bA hb
          obtain ⟨h5, h6⟩ := bA hb
          have h1 := of_decide_eq_true h1
          have h2 := of_decide_eq_true h2
          have h6 := (Bool.not_eq_true' _).mp h6
          refine ps_weak (ps_set (X := X.suite a ((a, oe) :: pn)) (i := j) (by show X.N.Nodup; rw [hN]; exact hnd) (by show X.N[j]? = _; rw [hN]; exact h1) (.inl (by show X.env.scope.names.lookup x = _; rw [hsc]; exact h2)) (pe_ht xo no hz hf t _ h4) ?_ (.inr (by show X.env.scope.names.lookup x = _; rw [hsc]; exact h2))) fun Dn τ H ⟨m, S, σ, e, i, p⟩ => ?_
          · rw [sw_eq (env := (X.suite a ((a, oe) :: pn)).env) (by show X.env.scope.kind = _; rw [hsc]; exact hkf) h5]
            show pure (swB _ _ X.env.scope) = _
            rw [hsc, h6]
          · simp only [hexec] at p
            cases ht : htD e.args t with
            | none => rw [ht] at p; exact p.elim
            | some y =>
              rw [ht] at p
              dsimp only at p
              by_cases hj : j < σ.length
              · rw [if_pos hj] at p
                exact ⟨m, S, σ, e, y, i, ht, fun v m1 H1 g1 rs1 r1 => p _ m1 H1 g1 rs1 ((i.2.1.mono g1 i.1).set j r1)⟩
              · rw [if_neg hj] at p
                exact p.elim
        · cases hb
      · cases hb
    · cases hb
  | par i j t u =>
    simp only [hsB] at hb
    split at hb
    · split at hb
      · obtain ⟨x, y, px, py, k1, p1, ea, eb, k2, p2, rfl, rfl, g1, g2, g3, g4, g5, g6, g7, g8⟩ := hpar_ok hb
        obtain ⟨vs, hdt⟩ := hf
        have hot : L2H.HotC (X.suite a ((a, oe) :: pn)) := ⟨(a, oe), ⟨rfl, vs, hdt, hz.2.2 vs hdt⟩, List.mem_cons_self⟩
        have hsw : swappedStores [.Tuple [.Name x px, .Name y py] k1 p1] (.Tuple [ea, eb] k2 p2) (X.suite a ((a, oe) :: pn)).env = pure (some [x, y]) := swp_eq (by show X.env.scope.kind = _; rw [hsc]; exact hkf) (by show swpB _ _ X.env.scope = _; rw [hsc]; exact g8)
        refine ps_weak (ps_parH (X := X.suite a ((a, oe) :: pn)) (i := i) (j := j) hot (by show X.N.Nodup; rw [hN]; exact hnd) (by show X.N[i]? = _; rw [hN]; exact g1) (by show X.N[j]? = _; rw [hN]; exact g2) g3 (by show X.env.scope.names.lookup x = _; rw [hsc]; exact g4) (by show X.env.scope.names.lookup y = _; rw [hsc]; exact g5)
          (pa_cons (pe_ht xo no hz ⟨vs, hdt⟩ t _ g6) (pa_cons (pe_ht xo no hz ⟨vs, hdt⟩ u _ g7) pa_nil (hs := star_cons (ht_ns g7))) (hs := star_cons (ht_ns g6))) hsw) fun Dn τ H ⟨m, S, σ, e, ii, p⟩ => ?_
        simp only [hexec] at p
        cases ht : htD e.args t with
        | none => rw [ht] at p; exact p.elim
        | some dx =>
          cases hu1 : htD e.args u with
          | none => rw [ht, hu1] at p; exact p.elim
          | some dy =>
            rw [ht, hu1] at p
            dsimp only at p
            by_cases hij : i < σ.length ∧ j < σ.length
            · rw [if_pos hij] at p
              refine ⟨m, S, σ, e, dx, ii, ht, fun v1 m1 H1 q1 rs1 r1 => ⟨m1, S, σ, e, dy, ii.grow q1 rs1, hu1, fun v2 m2 H2 q2 rs2 r2 => ⟨v1, v2, rfl, ?_⟩⟩⟩
              exact p _ m2 H2 (q1.trans q2) rs2 ((((ii.2.1.mono q1 ii.1).mono q2 rs1).set i (r1.mono q2 rs1)).set j r2)
            · rw [if_neg hij] at p
              exact p.elim
      · cases hb
    · cases hb
  | cmpr ne u w k =>
    simp only [hsB] at hb
    split at hb
    · rename_i e xs ys pos
      obtain ⟨h1, hb⟩ := bA hb
      obtain ⟨h2, h3⟩ := bA hb
      obtain ⟨l, o, r, q, rfl, ho, h4, h5, h6⟩ := hcmp_ok h2
      obtain ⟨e1, p1, rfl, h7⟩ := ret1_ok h3
      rw [v_emp h1]
      have op : OpR (X.suite a ((a, oe) :: pn)) (compareOp o) (R2b L.K L.fa fun x y => (eqD? x y).map fun b => if ne = true then !b else b) := by
        rcases ho with ⟨rfl, rfl⟩ | ⟨rfl, rfl⟩
        · have z := op_eqDD (X := X.suite a ((a, oe) :: pn)) (fa := L.fa) (by show X.A.units + 64 < cLine; omega)
          have e : (fun x y => (eqD? x y).map fun b => if false = true then !b else b) = eqD? := by
            funext x y
            cases eqD? x y <;> rfl
          rw [e, ← hL]
          exact z
        · have z := op_neDD (X := X.suite a ((a, oe) :: pn)) (fa := L.fa) (by show X.A.units + 64 < cLine; omega)
          rw [← hL]
          exact z
      refine ps_weak (ps_if (pt_cmpR op (pe_ht xo no hz hf u l h4) (pe_ht xo no hz hf w r h5) h6) (pss_one (p_retc h7)) pss_nil) fun Dn τ H ⟨m, S, σ, e, i, p⟩ => ?_
      simp only [hexec] at p
      cases hu1 : htD e.args u with
      | none => rw [hu1] at p; exact p.elim
      | some x =>
        cases hw1 : htD e.args w with
        | none => rw [hu1, hw1] at p; exact p.elim
        | some y =>
          rw [hu1, hw1] at p
          dsimp only at p
          cases hq : eqD? (see S x) (see S y) with
          | none => rw [hq] at p; exact p.elim
          | some b =>
            rw [hq] at p
            dsimp only at p
            refine ⟨m, S, σ, e, x, i, hu1, fun v1 m1 H1 g1 rs1 r1 => ⟨m1, S, σ, e, y, i.grow g1 rs1, hw1, fun v2 m2 H2 g2 rs2 r2 => ?_⟩⟩
            refine ⟨m2, S, x, y, if ne = true then !b else b, rs2, r1.mono g2 rs1, r2, by dsimp only; rw [hq]; rfl, _, rfl, ?_⟩
            have p := p.step (g1.trans g2)
            cases ne <;> cases b
            · exact p τ m2 H2 (.refl _ _) rs2 ((i.2.1.mono g1 i.1).mono g2 rs1)
            · exact p _ m2 H2 (.refl _ _) rs2 (.c k)
            · exact p _ m2 H2 (.refl _ _) rs2 (.c k)
            · exact p τ m2 H2 (.refl _ _) rs2 ((i.2.1.mono g1 i.1).mono g2 rs1)
    · cases hb
end
end Rf

set_option Elab.async false
set_option maxRecDepth 100000
set_option maxHeartbeats 1000000
/-! Rf, part P: a statement that is checked runs as it is told. -/
namespace Rf
open PySem PySem.Spec PyProof.Rows L2

structure ExOk (X : Cx) (L : Pl) (Tb : Tabs) (sub : Nat → Nat → Bool) : Prop where
  nm : ∀ i x, Tb.excs[i]? = some x → ∃ c, L.ca i = some c ∧ X.mg x = some c
  fl : ∀ i, L.fl i = flR Tb i
  flx : ∀ i j, sub i j = true → L.fl j ≠ [] → L.fl i = L.fl j
  xf : XfOk X L
  sub : ∀ i j c d, L.ca i = some c → L.ca j = some d → PySem.W.exmOne X.K c d = some (sub i j)
  ri : ∀ i x (n : Str), Tb.excs[i]? = some x → ((Tb.flds[i]?).getD []) ≠ [] → Tb.bare ≤ i → x = n → ∃ C f cc cda file fd ps, L.ca i = some (.ref C) ∧ IexC X.K C f cc cda file ∧ FnOk X.prog X.w X.K X.mg X.base (L2N.CX X.prog X.w) 1 f fd ps (spI C ((Tb.flds[i]?).getD [])) ∧ ((Tb.flds[i]?).getD []).length < 29 ∧ Binds X.K fd ps []
  rz : ∀ i x, Tb.excs[i]? = some x → i < Tb.bare → ∃ C bmB B newId initId, L.ca i = some (.ref C) ∧ ExcBaseFacts B newId initId bmB ∧ PySem.W.excIn X.K C bmB newId = true ∧ PySem.W.keepIn X.K (.ref C) = true ∧ PySem.W.subIn X.K (.ref C) (.type "BaseException") = some true ∧ PySem.W.typeIn X.K (.ref C) = some (.type "type")
structure SCtx (X : Cx) (L : Pl) (N : List Str) (sc : Scope) (W : WX) (k : Nat) (Tb : Tabs) (G : Nat → Option D) (F : Cl) (sub : Nat → Nat → Bool) : Prop extends Ctx X L N sc W k Tb G F where
  hp : PassesOwn (model X.prog X.w) X.A X.env X.xe
  hs : X.stack = X.env :: X.outer
  hf : X.env.frame = some X.env.locals
  fn : ∀ x, X.fn x = true
  kn : X.env.scope.kind = .function
  ex : ExOk X L Tb sub
  rm : Room 2 X.A
section
variable {X : Cx} {L : Pl} {N : List Str} {sc : Scope} {W : WX} {k : Nat} {Tb : Tabs} {G : Nat → Option D} {F : Cl} {sub : Nat → Nat → Bool}
theorem SCtx.tr (c : SCtx X L N sc W k Tb G F sub) {W' : WX} {pn : List (Addr × Obj)} {xe : Value → Shared → Prop} (tk : L2N.Takes (X.tr pn xe) W') (hp : PassesOwn (model X.prog X.w) X.A X.env xe) : SCtx (X.tr pn xe) L N sc W' k Tb G F sub where
  hL := c.hL
  hN := c.hN
  nd := c.nd
  hsc := c.hsc
  calm := c.calm
  hd := c.hd
  un := c.un
  gd := c.gd
  tk := tk
  room := c.room
  cal := c.cal
  mod := ⟨c.mod.free, c.mod.glb⟩
  cf := c.cf
  few := c.few
  hp := hp
  hs := c.hs
  hf := c.hf
  fn := c.fn
  kn := c.kn
  ex := ⟨c.ex.nm, c.ex.fl, c.ex.flx, ⟨c.ex.xf.fld, c.ex.xf.nd⟩, c.ex.sub, c.ex.ri, c.ex.rz⟩
  rm := c.rm
/-- an own exception without a word, raised -/
theorem pmk_own0 {x : Str} {p pos : Pos} {C : Addr} {bmB : List Value} {B newId initId : String} (E : ExcBaseFacts B newId initId bmB) (q : PySem.W.excIn X.K C bmB newId = true) (gC : X.mg x = some (.ref C)) (kC : PySem.W.keepIn X.K (.ref C) = true) (r : Raises X (.ref C)) (hg : Gl X x)
    (hdb : (x == ("__debug__" : Str)) = false) : L2N.PMk X (.Call (.Name x p) [] [] pos) (fun _ H Q => Q (.ref C) none H) := by
  intro pins s σ H Q I h
  refine wpAny_Call_Name_kw (ld_glob I hg gC ?_ hdb)
  refine PySem.W.callWith_K0 I.kIn kC ?_
  obtain ⟨bm, M, nm, qn, bs, hdct, sn, sub, ab, col, dd, k0, k1, k2, k3, k5, mN, hC, hN, hni, T⟩ := exc_obj I.kIn q
  show wpAny _ _ (PySem.call (.ref C) []) _ _ _
  exact wpAny_call_exc_subT E T hC hN hni (fun h' e hm => L2N.mk_of I hm r h (I.hok.gone hm.new)) (Nat.zero_le _)
theorem clsB_ok (c : SCtx X L N sc W k Tb G F sub) {i : Nat} {x : Str} (h : clsB Tb sc i x = true) : Gl X x ∧ (x == ("__debug__" : Str)) = false ∧ Tb.excs[i]? = some x := by
  obtain ⟨h1, h'⟩ := bA h
  obtain ⟨h2, h3⟩ := bA h'
  exact ⟨glB_ok (by rw [c.hsc]; exact h1), (okN_ok h2).1, of_decide_eq_true h3⟩
theorem swB_true {e tg : Expr} (h : swB e tg sc = true) : ∃ elt gs s p y py, e = .ListComp elt gs s p ∧ tg = .Name y py ∧ sc.names.lookup y = some .local := by
  cases e <;> first
    | (exact absurd (show false = true from h) Bool.false_ne_true)
    | (cases tg <;> first
        | (exact absurd (show false = true from h) Bool.false_ne_true)
        | (have h' := (bA (bA h).1).1
           exact ⟨_, _, _, _, _, _, rfl, rfl, by simpa using h'⟩))
theorem chk_lc {t : Tm} {b : Bool} {elt : Expr} {gs : List Comprehension} {s : Scope} {p : Pos} (h : chk Tb N sc t b (.ListComp elt gs s p) = true) : ∃ a own tg sr ifs, t = .comp a own tg sr ifs := by
  cases t with
  | var => obtain ⟨_, _, q, _⟩ := x_var h; cases q
  | cst => obtain ⟨_, _, _, q, _⟩ := x_cst h; cases q
  | glb => obtain ⟨_, _, q, _⟩ := x_glb h; cases q
  | fnv => obtain ⟨_, _, q, _⟩ := x_fnv h; cases q
  | bin => obtain ⟨_, _, _, _, q, _⟩ := x_bin h; cases q
  | neg => obtain ⟨_, _, q, _⟩ := x_neg h; cases q
  | not => obtain ⟨_, _, q, _⟩ := x_not h; cases q
  | cmp => obtain ⟨_, _, _, _, q, _⟩ := x_cmp h; cases q
  | cmp2 => obtain ⟨_, _, _, _, _, _, q, _⟩ := x_cmp2 h; cases q
  | and => obtain ⟨_, _, _, _, q, _⟩ := x_and h; cases q
  | or => obtain ⟨_, _, _, _, q, _⟩ := x_or h; cases q
  | ite => obtain ⟨_, _, _, _, q, _⟩ := x_ite h; cases q
  | call => obtain ⟨_, _, _, _, _, q, _⟩ := x_call h; cases q
  | callk => obtain ⟨_, _, _, _, _, q, _⟩ := x_callk h; cases q
  | callv => obtain ⟨_, _, _, _, _, q, _⟩ := x_callv h; cases q
  | blt => obtain ⟨_, _, _, _, _, q, _⟩ := x_blt h; cases q
  | isi => obtain ⟨_, _, _, _, _, q, _⟩ := x_isi h; cases q
  | mth => obtain ⟨_, _, _, _, _, _, q, _⟩ := x_mth h; cases q
  | pop => obtain ⟨_, _, _, q, _⟩ := x_pop h; cases q
  | newc => obtain ⟨_, _, _, q, _⟩ := x_newc h; cases q
  | rgl => obtain ⟨_, _, _, _, _, _, q, _⟩ := x_rgl h; cases q
  | rev => obtain ⟨_, _, _, _, _, _, q, _⟩ := x_rev h; cases q
  | sum2 => obtain ⟨_, _, _, _, q, _⟩ := x_sum2 h; cases q
  | sset => obtain ⟨_, _, _, _, _, q, _⟩ := x_sset h; cases q
  | edct => obtain ⟨_, q, _⟩ := x_edct h; cases q
  | varw => obtain ⟨_, _, q, _⟩ := x_varw h; cases q
  | tupp => obtain ⟨_, _, _, q, _⟩ := x_tupp h; cases q
  | tix => obtain ⟨_, _, _, _, _, q, _⟩ := x_tix h; cases q
  | dlx => obtain ⟨_, _, _, _, _, q, _⟩ := x_dlx h; cases q
  | lkeys => obtain ⟨_, _, _, _, _, q, _⟩ := x_lkeys h; cases q
  | dget => obtain ⟨_, _, _, _, _, q, _⟩ := x_dget h; cases q
  | smth => obtain ⟨_, _, _, _, q, _⟩ := x_smth h; cases q
  | skey => obtain ⟨_, _, _, q, _⟩ := x_skey h; cases q
  | idx => obtain ⟨_, _, _, q, _⟩ := x_idx h; cases q
  | slc => obtain ⟨_, _, _, _, _, q, _⟩ := x_slc h; cases q
  | tup => obtain ⟨_, _, _, q, _⟩ := x_tup h; cases q
  | lst => obtain ⟨_, _, q, _⟩ := x_lst h; cases q
  | new => obtain ⟨_, _, q, _⟩ := x_new h; cases q
  | newd => obtain ⟨_, q, _⟩ := x_newd h; cases q
  | comp a own tg sr ifs => exact ⟨a, own, tg, sr, ifs, rfl⟩
theorem p_set (c : SCtx X L N sc W k Tb G F sub) {tg : Tg} {t : Tm} {tgE e : Expr} {pos : Pos} (h : setB Tb N sc tg t tgE e = true) : PS X (.Assign [tgE] e pos) (RdS L W (exec G F sub (.set tg t))) := by
  obtain ⟨h1, h'⟩ := bA h
  obtain ⟨h2, h'⟩ := bA h'
  obtain ⟨h3, h'⟩ := bA h'
  obtain ⟨h4, h5⟩ := bA h'
  clear h h'
  have pg := g_one c.hN c.nd c.hsc c.calm c.hL (fun x _ => c.fn x) tg tgE h2
  have key : ∀ Dn τ H, RdS L W (exec G F sub (.set tg t)) Dn τ H → RdE L W (ev G F t) τ H (fun x H1 => RdG L tg x τ H1 Dn.nx) := fun Dn τ H ⟨σ, S, m, rs, re, p⟩ => by
    simp only [exec] at p
    refine ⟨σ, S, m, rs, re, (Pout.of rs re p).imp fun v H1 ⟨d, S1, m1, g1, rs1, r1, p1⟩ => ?_⟩
    cases ea : asg tg d σ with
    | none => rw [ea] at p1; exact p1.elim
    | some σ' =>
      rw [ea] at p1
      exact ⟨d, σ, σ', S1, m1, H1, .refl _ _, rs1, re.mono g1 rs, r1, ea, fun τ' re' _ => p1 τ' m1 H1 (.refl _ _) rs1 re'⟩
  cases hb : swB e tgE sc with
  | false =>
    rw [hb, if_neg Bool.false_ne_true] at h5
    refine ps_weak (ps_asg ((s_tm t).e c.toCtx e h3) pg ?_ ?_ ?_) key
    · show swapsWith e (some tgE) pos.line X.env = pure false
      rw [sw_eq c.kn h4, c.hsc, hb]
    · exact swt_eq c.kn (by rw [c.hsc]; exact of_decide_eq_true h5)
    · rw [asg_cons h1]; rfl
  | true =>
    obtain ⟨elt, gs, scope, p, y, py, rfl, rfl, hyl⟩ := swB_true hb
    obtain ⟨a, own, tg2, s, ifs, rfl⟩ := chk_lc h3
    cases tg with
    | tp ts => simp [chkG] at h2
    | nm i =>
      simp only [chkG, Bool.and_eq_true, decide_eq_true_eq] at h2
      have hsw : swapsWith (.ListComp elt gs scope p) (some (.Name y py)) pos.line X.env = pure true := by
        rw [sw_eq c.kn h4, c.hsc, hb]
      obtain ⟨elt', tgE', iter, ifsE, scope', p', e', _, q1, q2, q3, q4, q5, q6, q7, q8⟩ := x_comp h3
      cases e'
      refine ps_weak (a_comp c.toGood (i := i) (by rw [c.hN]; exact h2.1) (by rw [c.hsc]; exact hyl) hsw (s_sr s c.toCtx _ _ q3) (blkOk_by (by rw [c.hN, c.hsc]; exact q1)) q2 q6
        (fun s H C cl fp => g_one (c.toCtx.blk s H _ C cl fp).hN c.nd (c.toCtx.blk s H _ C cl fp).hsc c.calm c.hL (fun x hx => hx) tg2 tgE' q5)
        (fun s H C cl fp => s_ifs ifs (c.toCtx.blk s H _ C cl fp) _ q8) (fun s H C cl fp => (s_tm a).e (c.toCtx.blk s H _ C cl fp) _ q7) (plainS_ok q4)) fun Dn τ H q => ?_
      obtain ⟨σ, S, m, rs, re, p⟩ := key Dn τ H q
      refine ⟨σ, S, m, rs, re, p.imp fun v H1 q1 => ?_⟩
      obtain ⟨d, σ1, σ', S1, m1, H0, gg, rs1, re1, r1, ea, q2⟩ := q1
      simp only [asg] at ea
      split at ea
      · cases ea
        exact q2 _ (re1.set i r1) ⟨by rw [List.length_set], fun j hj => by
          simp only [slotsT, List.mem_singleton] at hj
          exact List.getElem?_set_ne (fun z => hj z.symm)⟩
      · cases ea
theorem setAll_re {m : List Addr} {H : Hp} : ∀ {is : List Nat} {ds : List D} {vs : List V} {σ σ' : Env} {τ : L2.St}, RE L.K L.fa m H σ τ → RpL L.K L.fa m H ds vs → setAll is ds σ = some σ' → ∃ τ', RE L.K L.fa m H σ' τ' ∧ τ' = (is.zip vs).foldl (fun τ q => τ.set q.1 (some q.2)) τ ∧ is.length = vs.length
  | [], _, _, _, _, τ, re, .nil, e => by simp only [setAll] at e; cases e; exact ⟨τ, re, rfl, rfl⟩
  | [], _, _, _, _, _, _, .cons _ _, e => by simp [setAll] at e
  | i :: is, _, _, _, _, _, _, .nil, e => by simp [setAll] at e
  | i :: is, _, _, σ, σ', τ, re, .cons r rr, e => by
    simp only [setAll] at e
    split at e
    · obtain ⟨τ', h1, h2, h3⟩ := setAll_re (re.set i r) rr e
      exact ⟨τ', h1, h2, by simp [h3]⟩
    · cases e
theorem p_par (c : SCtx X L N sc W k Tb G F sub) {is : List Nat} {ts : Tms} {es vs : List Expr} {k1 k2 : Nat} {p1 p2 pos : Pos} (h : parB Tb N sc is ts es vs = true) : PS X (.Assign [.Tuple es k1 p1] (.Tuple vs k2 p2) pos) (RdS L W (exec G F sub (.par is ts))) := by
  unfold parB at h
  split at h
  · rename_i xs hxs
    obtain ⟨h1, h'⟩ := bA h
    obtain ⟨h2, h''⟩ := bA h'
    obtain ⟨h3, h'⟩ := bA h''
    obtain ⟨h4, h''⟩ := bA h'
    obtain ⟨h5, h6⟩ := bA h''
    clear h h' h''
    have h1 := of_decide_eq_true h1
    have h3 := of_decide_eq_true h3
    have h6 := of_decide_eq_true h6
    have hsw : swappedStores [.Tuple es k1 p1] (.Tuple vs k2 p2) X.env = pure (some xs) := swp_eq c.kn (by rw [c.hsc]; exact h6)
    have pa := s_tms ts c.toCtx vs h5
    have loc : ∀ x ∈ xs, X.env.scope.names.lookup x = some .local := fun x hx => by
      rw [c.hsc]
      exact of_decide_eq_true (List.all_eq_true.mp h2 x hx)
    have nd : X.N.Nodup := by rw [c.hN]; exact c.nd
    have lv : vs.length = is.length := by
      unfold swpB at h6
      split at h6
      · cases h6
      · rename_i cc
        have hl : xs.length = is.length := by
          have := congrArg List.length h1
          simpa using this.symm
        have he : ∀ (es : List Expr) (xs : List Str), nmL es = some xs → es.length = xs.length := by
          intro es
          induction es with
          | nil => intro xs e; cases e; rfl
          | cons e es ih =>
            intro xs e
            obtain ⟨x, p, ys, rfl, e2, rfl⟩ := nmL_cons e
            rw [List.length_cons, List.length_cons, ih ys e2]
        have := he es xs hxs
        simp only [Bool.or_eq_true, not_or, Bool.not_eq_true, bne_eq_false_iff_eq] at cc
        rw [cc.2, this, hl]
    have run : ∀ Dn τ H, RdS L W (exec G F sub (.par is ts)) Dn τ H → RdA L W (evs G F ts) τ H (fun us H1 => is.length = us.length ∧ Dn.nx ((is.zip us).foldl (fun τ q => τ.set q.1 (some q.2)) τ) H1) := fun Dn τ H ⟨σ, S, m, rs, re, p⟩ => by
      simp only [exec] at p
      refine ⟨σ, S, m, rs, re, (Pout.of rs re p).imp fun us H1 ⟨ds, S1, m1, g1, rs1, rl, p1⟩ => ?_⟩
      cases ea : setAll is ds σ with
      | none => rw [ea] at p1; exact p1.elim
      | some σ' =>
        rw [ea] at p1
        obtain ⟨τ', r1, r2, r3⟩ := setAll_re (re.mono g1 rs) rl ea
        exact ⟨r3, by rw [← r2]; exact p1 τ' m1 H1 (.refl _ _) rs1 r1⟩
    have lx : xs.length = is.length := by
      have := congrArg List.length h1
      simpa using this.symm
    rw [Bool.or_eq_true] at h4
    rcases h4 with h4 | h4
    · have h4 := of_decide_eq_true h4
      obtain ⟨i, j, rfl⟩ := len2 h4
      obtain ⟨x, y, rfl⟩ := len2 lx
      obtain ⟨ea, eb, rfl⟩ := len2 lv
      simp only [List.map_cons, List.map_nil, List.cons.injEq, and_true] at h1
      obtain ⟨px, py, rfl⟩ := nm2 hxs
      have hij : i ≠ j := by simpa using h3
      refine ps_weak (ps_par c.calm nd (by rw [c.hN]; exact h1.1) (by rw [c.hN]; exact h1.2) hij (loc x (by simp)) (loc y (by simp)) pa hsw rfl) fun Dn τ H q => ?_
      obtain ⟨σ, S, m, rs, re, p⟩ := run Dn τ H q
      refine ⟨σ, S, m, rs, re, p.imp fun us H1 ⟨hl, q1⟩ => ?_⟩
      obtain ⟨v, w, rfl⟩ := len2 hl.symm
      exact ⟨v, w, rfl, q1⟩
    · have h4 := of_decide_eq_true h4
      obtain ⟨i, j, l, rfl⟩ := len3 h4
      obtain ⟨x, y, z, rfl⟩ := len3 lx
      obtain ⟨ea, eb, ed, rfl⟩ := len3 lv
      simp only [List.map_cons, List.map_nil, List.cons.injEq, and_true] at h1
      obtain ⟨px, py, pz, rfl⟩ := nm3 hxs
      have hij : (i ≠ j ∧ i ≠ l) ∧ j ≠ l := by simpa using h3
      refine ps_weak (ps_par3 c.calm nd (by rw [c.hN]; exact h1.1) (by rw [c.hN]; exact h1.2.1) (by rw [c.hN]; exact h1.2.2) hij.1.1 hij.1.2 hij.2 (loc x (by simp)) (loc y (by simp)) (loc z (by simp)) pa hsw rfl) fun Dn τ H q => ?_
      obtain ⟨σ, S, m, rs, re, p⟩ := run Dn τ H q
      refine ⟨σ, S, m, rs, re, p.imp fun us H1 ⟨hl, q1⟩ => ?_⟩
      obtain ⟨u, v, w, rfl⟩ := len3 hl.symm
      exact ⟨u, v, w, rfl, q1⟩
  · cases h
/-- int op= int -/
theorem ip_of {op : BOp} {o : Operator} (h : opB op o = true) (h2 : (op == .add || op == .sub) = true) : PIp X o (fun x y H Q => ∃ a b d, x = cV a ∧ y = cV b ∧ augI op (.c a) (.c b) = some d ∧ ∀ v, (∀ m, Rp L.K L.fa m H d v) → Q v H) := by
  intro pins s σ H x y v u Q I rx ry hq
  obtain ⟨a, b, d, rfl, rfl, e, q⟩ := hq
  unfold augI at e
  split at e
  · rename_i i j e1 e2
    cases e1
    cases e2
    cases e
    cases o <;> first | (exact absurd (show false = true from h) Bool.false_ne_true) | skip
    exact ip_add pins s σ H _ _ v u Q I rx ry ⟨i, j, rfl, rfl, q _ fun m => .c (.int _)⟩
  · rename_i i j e1 e2
    cases e1
    cases e2
    cases e
    cases o <;> first | (exact absurd (show false = true from h) Bool.false_ne_true) | skip
    exact ip_sub pins s σ H _ _ v u Q I rx ry ⟨i, j, rfl, rfl, q _ fun m => .c (.int _)⟩
  · cases e
theorem augI_c {op : BOp} {x y d : D} (h : augI op x y = some d) : ∃ i j n, x = .c (.int i) ∧ y = .c (.int j) ∧ d = .c (.int n) := by
  unfold augI at h
  split at h
  · cases h; exact ⟨_, _, _, rfl, rfl, rfl⟩
  · cases h; exact ⟨_, _, _, rfl, rfl, rfl⟩
  · cases h
theorem p_aug (c : SCtx X L N sc W k Tb G F sub) {i : Nat} {op : BOp} {t : Tm} {x : Str} {p pos : Pos} {o : Operator} {e : Expr} (h1 : N[i]? = some x) (h2 : stoB sc (fun _ => true) x = true) (h3 : opB op o = true) (h4 : (op == .add || op == .sub) = true) (h5 : chk Tb N sc t false e = true) :
    PS X (.AugAssign (.Name x p) o e pos) (RdS L W (exec G F sub (.aug i op t))) := by
  have hl : Loc X.env.scope x := by
    rw [c.hsc]
    unfold stoB at h2
    split at h2
    · rename_i e; exact .inl e
    · rename_i e; exact .inr e
    · cases h2
  refine ps_weak (ps_aug (by rw [c.hN]; exact c.nd) (by rw [c.hN]; exact h1) hl ((s_tm t).e c.toCtx e h5) (ip_of (L := L) h3 h4) (.inl (c.fn x))) fun Dn τ H ⟨σ, S, m, rs, re, p⟩ => ?_
  simp only [exec] at p
  split at p
  · rename_i d hd
    obtain ⟨v, e1, r⟩ := re.at_ i d hd
    refine ⟨v, e1, σ, S, m, rs, re, (Pout.of rs re p).imp fun y H1 ⟨d2, S1, m1, g1, rs1, r1, p1⟩ => ?_⟩
    cases ea : augI op d d2 with
    | none => rw [ea] at p1; exact p1.elim
    | some d3 =>
      rw [ea] at p1
      obtain ⟨a, b, n, rfl, rfl, rfl⟩ := augI_c ea
      cases r
      cases r1
      exact ⟨.int a, .int b, _, rfl, rfl, ea, fun v hv => p1 _ m1 H1 (.refl _ _) rs1 ((re.mono g1 rs).set i (hv m1))⟩
  · exact p.elim
theorem p_augIx (c : SCtx X L N sc W k Tb G F sub) {o i t : Tm} {op : BOp} {eo ei e : Expr} {sp pos : Pos} {oo : Operator} (h1 : chk Tb N sc o false eo = true) (h2 : chk Tb N sc i false ei = true) (hp : plainI ei = true) (h3 : opB op oo = true) (h4 : (op == .add || op == .sub) = true) (h5 : chk Tb N sc t false e = true) :
    PS X (.AugAssign (.Subscript eo ei sp) oo e pos) (RdS L W (exec G F sub (.augIx o i op t))) := by
  have hu := c.un
  refine ps_weak (ps_augS ((s_tm o).e c.toCtx eo h1) ((s_tm i).e c.toCtx ei h2) (get_ok (fa := L.fa) (by omega)) ((s_tm t).e c.toCtx e h5) (ip_of (L := L) h3 h4) (put_ok (fa := L.fa) (by omega)) (by intros; cases ei <;> first | rfl | (exact absurd (show false = true from hp) Bool.false_ne_true))) fun Dn τ H ⟨σ, S, m, rs, re, p⟩ => ?_
  simp only [exec] at p
  refine ⟨σ, S, m, rs, re, (Pout.of rs re p).imp fun x H1 ⟨d1, S1, m1, g1, rs1, r1, p1⟩ => ?_⟩
  have re1 := re.mono g1 rs
  refine ⟨σ, S1, m1, rs1, re1, (Pout.of rs1 re1 p1).imp fun y H2 ⟨d2, S2, m2, g2, rs2, r2, p2⟩ => ?_⟩
  have re2 := re1.mono g2 rs1
  have r1' := r1.mono g2 rs1
  cases ea : getA d1 d2 S2 with
  | none => rw [ea] at p2; exact p2.elim
  | some z =>
    rw [ea] at p2
    unfold getA at ea
    split at ea
    · rename_i hk
      obtain ⟨k1, k2⟩ := bA hk
      refine ⟨m2, S2, d1, d2, z, by rw [c.hL]; exact rs2, by rw [c.hL]; exact r1', by rw [c.hL]; exact r2, ea, fun n hn => ?_, ?_, fun zv rz => ?_⟩
      · subst hn; exact of_decide_eq_true k2
      · cases d1 <;> first | exact ⟨_, rfl⟩ | (exact absurd (show false = true from k1) Bool.false_ne_true)
      rw [c.hL] at rz
      refine ⟨σ, S2, m2, rs2, re2, (Pout.of rs2 re2 p2).imp fun y H3 ⟨d3, S3, m3, g3, rs3, r3, p3⟩ => ?_⟩
      have rz' := rz.mono g3 rs2
      cases eb : augI op z d3 with
      | none => rw [eb] at p3; exact p3.elim
      | some d4 =>
        rw [eb] at p3
        obtain ⟨a, b, n, rfl, rfl, rfl⟩ := augI_c eb
        cases rz'
        cases r3
        refine ⟨.int a, .int b, _, rfl, rfl, eb, fun v hv => ?_⟩
        dsimp only at p3
        cases ec : putIx d1 d2 (.c (.int n)) S3 with
        | none => rw [ec] at p3; exact p3.elim
        | some S4 =>
          rw [ec] at p3
          exact ⟨m3, S3, d1, d2, _, S4, by rw [c.hL]; exact rs3, by rw [c.hL]; exact r1'.mono g3 rs2, by rw [c.hL]; exact r2.mono g3 rs2, by rw [c.hL]; exact hv m3, ec, fun H' g4 rs4 => by
            rw [c.hL] at rs4
            exact p3 τ m3 H' g4 rs4 ((re2.mono g3 rs2).mono g4 rs3)⟩
    · cases ea
theorem p_setIx (c : SCtx X L N sc W k Tb G F sub) {o i t : Tm} {eo ei e : Expr} {sp pos : Pos} (h1 : chk Tb N sc o false eo = true) (h2 : chk Tb N sc i false ei = true) (hp : plainI ei = true) (h4 : plainV e = true) (h5 : chk Tb N sc t false e = true) :
    PS X (.Assign [.Subscript eo ei sp] e pos) (RdS L W (exec G F sub (.setIx o i t))) := by
  have hu := c.un
  have hsw : swB e (.Subscript eo ei sp) sc = false := by
    unfold swB
    cases e <;> rfl
  have pg : PG X (.Subscript eo ei sp) _ := pg_sub ((s_tm o).e c.toCtx eo h1) ((s_tm i).e c.toCtx ei h2) (put_ok (fa := L.fa) (by omega)) (by intro v; cases ei <;> first | rfl | (exact absurd (show false = true from hp) Bool.false_ne_true))
  refine ps_weak (ps_asg ((s_tm t).e c.toCtx e h5) pg (show swapsWith e (some (.Subscript eo ei sp)) pos.line X.env = pure false by rw [sw_eq c.kn h4, c.hsc, hsw]) (swt_eq c.kn (by unfold swpT; rfl)) rfl) fun Dn τ H ⟨σ, S, m, rs, re, p⟩ => ?_
  simp only [exec] at p
  refine ⟨σ, S, m, rs, re, (Pout.of rs re p).imp fun v H1 ⟨d0, S1, m1, g1, rs1, r0, p1⟩ => ?_⟩
  have re1 := re.mono g1 rs
  refine ⟨σ, S1, m1, rs1, re1, (Pout.of rs1 re1 p1).imp fun x H2 ⟨d1, S2, m2, g2, rs2, r1, p2⟩ => ?_⟩
  have re2 := re1.mono g2 rs1
  refine ⟨σ, S2, m2, rs2, re2, (Pout.of rs2 re2 p2).imp fun y H3 ⟨d2, S3, m3, g3, rs3, r2, p3⟩ => ?_⟩
  cases ec : putIx d1 d2 d0 S3 with
  | none => rw [ec] at p3; exact p3.elim
  | some S4 =>
    rw [ec] at p3
    exact ⟨m3, S3, d1, d2, d0, S4, by rw [c.hL]; exact rs3, by rw [c.hL]; exact r1.mono g3 rs2, by rw [c.hL]; exact r2, by rw [c.hL]; exact (r0.mono g2 rs1).mono g3 rs2, ec, fun H' g4 rs4 => by
      rw [c.hL] at rs4
      exact p3 τ m3 H' g4 rs4 ((re2.mono g3 rs2).mono g4 rs3)⟩
/-- o[i], p[j] = t -/
theorem p_swp (c : SCtx X L N sc W k Tb G F sub) {o i p j t : Tm} {eo ei ep ej e : Expr} {s1 s2 q1 pos : Pos} {k1 : Nat} (h1 : chk Tb N sc o false eo = true) (h2 : chk Tb N sc i false ei = true) (h3 : plainI ei = true) (h4 : chk Tb N sc p false ep = true) (h5 : chk Tb N sc j false ej = true) (h6 : plainI ej = true)
    (h7 : chk Tb N sc t false e = true) (h8 : plainV e = true) (h9 : swB e (.Tuple [.Subscript eo ei s1, .Subscript ep ej s2] k1 q1) sc = false) (h10 : swpT (.Tuple [.Subscript eo ei s1, .Subscript ep ej s2] k1 q1) e sc = some none) :
    PS X (.Assign [.Tuple [.Subscript eo ei s1, .Subscript ep ej s2] k1 q1] e pos) (RdS L W (exec G F sub (.swp o i p j t))) := by
  have hu := c.un
  have pg1 : PG X (.Subscript eo ei s1) _ := pg_sub ((s_tm o).e c.toCtx eo h1) ((s_tm i).e c.toCtx ei h2) (put_ok (fa := L.fa) (by omega)) (by intro v; cases ei <;> first | rfl | (exact absurd (show false = true from h3) Bool.false_ne_true))
  have pg2 : PG X (.Subscript ep ej s2) _ := pg_sub ((s_tm p).e c.toCtx ep h4) ((s_tm j).e c.toCtx ej h5) (put_ok (fa := L.fa) (by omega)) (by intro v; cases ej <;> first | rfl | (exact absurd (show false = true from h6) Bool.false_ne_true))
  refine ps_weak (ps_asg ((s_tm t).e c.toCtx e h7) (pg_tup c.calm (pgs_cons pg1 (pgs_cons pg2 pgs_nil))) (show swapsWith e (some (.Tuple [.Subscript eo ei s1, .Subscript ep ej s2] k1 q1)) pos.line X.env = pure false by rw [sw_eq c.kn h8, c.hsc, h9]) (swt_eq c.kn (by rw [c.hsc]; exact h10)) rfl) fun Dn τ H ⟨σ, S, m, rs, re, pp⟩ => ?_
  simp only [exec] at pp
  refine ⟨σ, S, m, rs, re, (Pout.of rs re pp).imp fun v H1 ⟨d0, S1, m1, g1, rs1, r0, p1⟩ => ?_⟩
  split at p1
  · rename_i a b
    cases r0 with
    | tup hT hz hl =>
      cases hl with
      | cons ra hl =>
        cases hl with
        | cons rb hl =>
          cases hl
          have re1 := re.mono g1 rs
          refine ⟨_, _, rfl, by rw [c.hL]; exact hT, rfl, _, _, rfl, ⟨σ, S1, m1, rs1, re1, (Pout.of rs1 re1 p1).imp fun x H2 ⟨d1, S2, m2, g2, rs2, r1, p2⟩ => ?_⟩⟩
          have re2 := re1.mono g2 rs1
          refine ⟨σ, S2, m2, rs2, re2, (Pout.of rs2 re2 p2).imp fun y H3 ⟨d2, S3, m3, g3, rs3, r2, p3⟩ => ?_⟩
          cases ec : putIx d1 d2 a S3 with
          | none => rw [ec] at p3; exact p3.elim
          | some S4 =>
            rw [ec] at p3
            dsimp only at p3
            have re3 := re2.mono g3 rs2
            have rb3 := ((rb.mono g2 rs1).mono g3 rs2)
            refine ⟨m3, S3, d1, d2, a, S4, by rw [c.hL]; exact rs3, by rw [c.hL]; exact r1.mono g3 rs2, by rw [c.hL]; exact r2, by rw [c.hL]; exact (ra.mono g2 rs1).mono g3 rs2, ec, fun H4 g4 rs4 => ?_⟩
            rw [c.hL] at rs4
            have p3 := p3.step g4
            have re4 := re3.mono g4 rs3
            have rb4 := rb3.mono g4 rs3
            refine ⟨_, _, rfl, ⟨σ, S4, m3, rs4, re4, (Pout.of rs4 re4 p3).imp fun x H5 ⟨d3, S5, m5, g5, rs5, r3, p4⟩ => ?_⟩⟩
            have re5 := re4.mono g5 rs4
            refine ⟨σ, S5, m5, rs5, re5, (Pout.of rs5 re5 p4).imp fun y H6 ⟨d4, S6, m6, g6, rs6, r4, p5⟩ => ?_⟩
            cases ec2 : putIx d3 d4 b S6 with
            | none => rw [ec2] at p5; exact p5.elim
            | some S7 =>
              rw [ec2] at p5
              refine ⟨m6, S6, d3, d4, b, S7, by rw [c.hL]; exact rs6, by rw [c.hL]; exact r3.mono g6 rs5, by rw [c.hL]; exact r4, by rw [c.hL]; exact (rb4.mono g5 rs4).mono g6 rs5, ec2, fun H' g7 rs7 => ⟨rfl, ?_⟩⟩
              rw [c.hL] at rs7
              exact p5 τ m6 H' g7 rs7 ((re5.mono g6 rs5).mono g7 rs6)
  · exact p1.elim
/-! ### loops -/
theorem p_whil (c : SCtx X L N sc W k Tb G F sub) {t : Tm} {b : Sts} {e : Expr} {xs : List Stmt} {pos : Pos} (h1 : chk Tb N sc t true e = true) (hb : PSs X xs (RdS L W (execs G F sub b))) : PS X (.While e xs [] pos) (RdS L W (exec G F sub (.whil t b))) := by
  refine ps_weak (ps_while c.hp ((s_tm t).tt c.toCtx e h1) hb) fun Dn τ H ⟨σ, S, m, rs, re, p⟩ => ?_
  simp only [exec] at p
  refine ⟨fun n τ H => ∃ σ S m, RS L.K L.fa m S H ∧ RE L.K L.fa m H σ τ ∧ Pout L W m H Dn (loop (ev G F t) (execs G F sub b) n σ S), ⟨FUEL, σ, S, m, rs, re, p⟩, fun n τ H ⟨σ, S, m, rs, re, p⟩ => ?_⟩
  cases n with
  | zero => exact p.elim
  | succ n =>
    unfold loop at p
    refine ⟨σ, S, m, rs, re, (Pout.test rs re (fun d S hd => ?_) p).imp fun d H1 ⟨S1, m1, g1, rs1, p1⟩ => ?_⟩
    · split
      · exact absurd rfl (hd _)
      · exact absurd rfl (hd _)
      · rfl
    · have re1 := re.mono g1 rs
      cases d with
      | true =>
        rw [if_pos rfl]
        exact ⟨_, fun σ' H' q => ⟨n, Nat.lt_succ_self n, q⟩, σ, S1, m1, rs1, re1, Pout.turn p1 fun σ2 S2 τ2 m2 H2 g2 rs2 re2 p2 => ⟨σ2, S2, m2, rs2, re2, p2⟩⟩
      | false =>
        rw [if_neg Bool.false_ne_true]
        exact p1 τ m1 H1 (.refl _ _) rs1 re1
theorem p_for (c : SCtx X L N sc W k Tb G F sub) {tg : Tg} {r : Sr} {b : Sts} {tgE iter : Expr} {xs : List Stmt} {pos : Pos} (h1 : chkS Tb N sc r tgE iter = true) (h2 : plainS iter = true) (h3 : chkG N sc (fun _ => true) tg tgE = true) (hb : PSs X xs (RdS L W (execs G F sub b))) :
    PS X (.For tgE iter xs [] pos) (RdS L W (exec G F sub (.for_ tg r b))) := by
  have pg := g_one c.hN c.nd c.hsc c.calm c.hL (fun x _ => c.fn x) tg tgE h3
  refine ps_weak (ps_for c.hp c.calm (s_sr r c.toCtx tgE iter h1) pg hb (plainS_ok h2)) fun Dn τ H ⟨σ, S, m, rs, re, p⟩ => ?_
  simp only [exec] at p
  refine ⟨σ, S, m, rs, re, (Pout.of rs re p).imp fun J H1 ⟨its, S1, m1, g1, rs1, ⟨yl, _⟩, p1⟩ => ?_⟩
  refine ⟨fun i n τ H => n = its.length - i ∧ i ≤ its.length ∧ ∃ σ S m, Gr m1 H1 m H ∧ RS L.K L.fa m S H ∧ RE L.K L.fa m H σ τ ∧ Pout L W m H Dn (forL tg (execs G F sub b) (its.drop i) σ S), ⟨_, rfl, Nat.zero_le _, σ, S1, m1, .refl _ _, rs1, re.mono g1 rs, p1⟩, fun i n τ H ⟨en, hi, σ, S, m, gg, rs, re, p⟩ => ?_⟩
  subst en
  by_cases hlt : i < its.length
  · have hd : its[i]? = some its[i] := List.getElem?_eq_getElem hlt
    generalize its[i] = d at hd
    obtain ⟨y1, y2⟩ := yl.go m H gg i d hd
    have hdrop : its.drop i = d :: its.drop (i + 1) := by
      rw [List.drop_eq_getElem_cons hlt]
      congr 1
      exact (List.getElem?_eq_some_iff.mp hd).2
    rw [hdrop] at p
    unfold forL at p
    refine .inr ⟨y1, fun τ H => i + 1 ≤ its.length ∧ ∃ σ S m, Gr m1 H1 m H ∧ RS L.K L.fa m S H ∧ RE L.K L.fa m H σ τ ∧ Pout L W m H Dn (forL tg (execs G F sub b) (its.drop (i + 1)) σ S), fun σ' H' q => ⟨its.length - (i + 1), by omega, rfl, q⟩, fun x H' yy => ?_⟩
    have step : Gr m H m H' ∧ Rp L.K L.fa m H' d x := by
      cases y2 x H' yy with
      | one r => exact ⟨.refl _ _, r.mono gg rs1⟩
      | @two d1 d2 x1 x2 T hT r1 r2 =>
        have g2 : Gr m H m (upd H T (.tup [x1, x2])) := Gr.push hT
        exact ⟨g2, .tup (vs := [x1, x2]) (.inl (.inl upd_same)) (show (2 : Nat) ≤ sizeLine by decide) (.cons ((r1.mono gg rs1).mono g2 rs) (.cons ((r2.mono gg rs1).mono g2 rs) .nil))⟩
    have rs' : RS L.K L.fa m S H' := by
      cases y2 x H' yy with
      | one r => exact rs
      | two hT _ _ => exact rs.push hT
    obtain ⟨g2, rd⟩ := step
    have p := p.step g2
    cases ea : asg tg d σ with
    | none => rw [ea] at p; exact p.elim
    | some σ' =>
      rw [ea] at p
      exact ⟨d, σ, σ', S, m, H', .refl _ _, rs', re.mono g2 rs, rd, ea, fun τ' re' _ => ⟨σ', S, m, rs', re', Pout.turn p fun σ2 S2 τ2 m2 H2 g3 rs2 re2 p2 => ⟨hlt, σ2, S2, m2, (gg.trans g2).trans g3, rs2, re2, p2⟩⟩⟩
  · have e : i = its.length := by omega
    subst e
    rw [List.drop_length] at p
    exact .inl ⟨yl.stop m H gg, p τ m H (.refl _ _) rs re⟩
/-! ### raise, try -/
theorem p_raise (c : SCtx X L N sc W k Tb G F sub) {i : Nat} {x : Str} {p q pos : Pos} (h0 : i < Tb.bare) (h : clsB Tb sc i x = true) : PS X (.Raise (some (.Call (.Name x p) [] [] q)) none pos) (RdS L W (exec G F sub (.raise i .nil))) := by
  obtain ⟨h1, h2, h3⟩ := clsB_ok c h
  obtain ⟨cv, e1, e2⟩ := c.ex.nm i x h3
  obtain ⟨C, bmB, B, newId, initId, f1, f2, f3, f4, f5, f6⟩ := c.ex.rz i x h3 h0
  rw [f1] at e1
  cases e1
  refine ps_weak (L2N.ps_raise c.calm c.tk (pmk_own0 f2 f3 e2 f4 (raises_own f5 f6) h1 h2)) fun Dn τ H ⟨σ, S, m, rs, re, p⟩ => ?_
  simp only [exec, evs] at p
  exact p (.ref C) none τ m H (.refl _ _) rs re ⟨f1, .inl ⟨rfl, rfl⟩⟩
theorem v_rzB2 {i : Nat} {as : Tms} {e : Expr} (h : rzB2 Tb N sc i as e = true) : ∃ x p e1 es q, e = .Call (.Name x p) (e1 :: es) [] q ∧ chks Tb N sc as (e1 :: es) = true ∧ (e1 :: es).length = ((Tb.flds[i]?).getD []).length ∧ Tb.bare ≤ i ∧ clsB Tb sc i x = true := by
  unfold rzB2 at h
  split at h
  · rename_i f es ks q
    obtain ⟨h1, g1⟩ := bA h
    obtain ⟨h2, g2⟩ := bA g1
    obtain ⟨h3, g3⟩ := bA g2
    obtain ⟨h4, g4⟩ := bA g3
    clear h g1 g2 g3
    rw [v_emp h1]
    split at g4
    · cases es with
      | nil => cases h2
      | cons e1 es => exact ⟨_, _, _, _, _, rfl, h3, of_decide_eq_true h4, of_decide_eq_true (bA g4).1, (bA g4).2⟩
    · cases g4
  · cases h
theorem rpl_reverse {m : List Addr} {H : Hp} : ∀ {ds : List D} {vs : List V}, RpL L.K L.fa m H ds vs → RpL L.K L.fa m H ds.reverse vs.reverse
  | _, _, .nil => .nil
  | _, _, .cons h t => by
    rw [List.reverse_cons, List.reverse_cons]
    exact (rpl_reverse t).append (.cons h .nil)
theorem p_raise2 (c : SCtx X L N sc W k Tb G F sub) {i : Nat} {as : Tms} {e : Expr} {pos : Pos} (h : rzB2 Tb N sc i as e = true) : PS X (.Raise (some e) none pos) (RdS L W (exec G F sub (.raise i as))) := by
  obtain ⟨x, p, e1, es, q, rfl, hk, hl, hb, hc⟩ := v_rzB2 h
  obtain ⟨h1, h2, h3⟩ := clsB_ok c hc
  obtain ⟨cv, n1, n2⟩ := c.ex.nm i x h3
  obtain ⟨C, f, cc, cda, file, fd, ps, f1, T, F1, few, bd⟩ := c.ex.ri i x x h3 (fun z => by rw [z] at hl; cases hl) hb rfl
  rw [f1] at n1
  cases n1
  have ns : (e1 :: es).all notStar = true := xs_plain hk
  rw [List.all_cons, Bool.and_eq_true] at ns
  refine ps_weak (L2N.ps_raise c.calm c.tk (pmk_init T F1 few c.rm bd (L2N.passes_call (W := W) (E := fun _ _ _ => False) c.tk fun _ _ _ _ z => z.elim) h1 n2 (s_tms as c.toCtx _ hk) h2 (star_cons ns.1) (plain_args ns.2))) fun Dn τ H ⟨σ, S, m, rs, re, pp⟩ => ?_
  simp only [exec] at pp
  refine ⟨σ, S, m, rs, re, ?_⟩
  dsimp only
  cases ee : evs G F as σ S with
  | ok ds S1 =>
    rw [ee] at pp
    intro vs m1 H1 g1 rs1 rl
    have pp : Pout L W m H Dn (.ex ⟨i, ds.reverse⟩ σ S1) := pp
    have lds : vs.length = ((Tb.flds[i]?).getD []).length := by
      rw [← hl, ← rl.length]
      exact evs_len hk ee
    refine ⟨lds, fun d nd => ?_⟩
    refine pp (.ref C) (some d) τ m1 _ (g1.trans (Gr.push nd)) (rs1.push nd) ((re.mono g1 rs).mono (Gr.push nd) rs1) ⟨f1, .inr ⟨d, _, rfl, upd_same, ?_, ?_⟩⟩
    · rw [c.ex.fl, List.map_reverse, List.map_fst_zip (by omega)]
      rfl
    · rw [List.map_reverse, List.map_snd_zip (by omega)]
      exact rpl_reverse (rl.mono (Gr.push nd) rs1)
  | ex x S1 => rw [ee] at pp; exact fun cls dd m1 H1 g1 rs1 rx => pp cls dd τ m1 H1 g1 rs1 (re.mono g1 rs) rx
  | bad => rw [ee] at pp; exact pp.elim
theorem v_hnd {a : St} {s : Stmt} (h : hndS a s = true) : (a = .cont ∧ ∃ p, s = .Continue p) ∨ (a = .brk ∧ ∃ p, s = .Break p) ∨ (a = .pass ∧ ∃ p, s = .Pass p) ∨ (a = .retN ∧ ∃ p, s = .Return none p) ∨ (∃ k c j p q, a = .ret (.cst k) ∧ s = .Return (some (.Constant c j q)) p ∧ cstB k c = true) := by
  unfold hndS at h
  split at h
  · split at h
    · exact .inl ⟨rfl, _, rfl⟩
    · cases h
  · split at h
    · exact .inr (.inl ⟨rfl, _, rfl⟩)
    · cases h
  · split at h
    · exact .inr (.inr (.inl ⟨rfl, _, rfl⟩))
    · cases h
  · split at h
    · exact .inr (.inr (.inr (.inl ⟨rfl, _, rfl⟩)))
    · cases h
  · split at h
    · unfold hndB at h
      split at h
      · exact .inr (.inr (.inr (.inr ⟨_, _, _, _, _, rfl, rfl, h⟩)))
      · cases h
    · cases h
  · cases h
theorem v_chkH {hh : Sts} {ys : List Stmt} (h : chkH hh ys = true) : ∃ a s, hh = .cons a .nil ∧ ys = [s] ∧ hndS a s = true := by
  unfold chkH at h
  split at h
  · exact ⟨_, _, rfl, rfl, h⟩
  · cases h
/-- a clause's suite, anywhere -/
theorem p_hnd {Y : Cx} {a : St} {s : Stmt} (h : hndS a s = true) : PS Y s (RdS L noW (exec G F sub a)) := by
  rcases v_hnd h with ⟨rfl, p, rfl⟩ | ⟨rfl, p, rfl⟩ | ⟨rfl, p, rfl⟩ | ⟨rfl, p, rfl⟩ | ⟨kk, cc, j, p, q, rfl, rfl, h1⟩
  · exact ps_weak ps_continue fun Dn τ H ⟨σ, S, m, rs, re, p⟩ => by simp only [exec] at p; exact p τ m H (.refl _ _) rs re
  · exact ps_weak ps_break fun Dn τ H ⟨σ, S, m, rs, re, p⟩ => by simp only [exec] at p; exact p τ m H (.refl _ _) rs re
  · exact ps_weak ps_pass fun Dn τ H ⟨σ, S, m, rs, re, p⟩ => by simp only [exec] at p; exact p τ m H (.refl _ _) rs re
  · exact ps_weak ps_retN fun Dn τ H ⟨σ, S, m, rs, re, p⟩ => by simp only [exec] at p; exact p _ m H (.refl _ _) rs (.c .non)
  · have fin : ∀ Dn τ H, RdS L noW (exec G F sub (.ret (.cst kk))) Dn τ H → tRet (tC (cV kk)) Dn τ H := fun Dn τ H ⟨σ, S, m, rs, re, p⟩ => by
      simp only [exec, ev] at p
      exact p _ m H (.refl _ _) rs (.c kk)
    unfold cstB at h1
    split at h1
    · exact ps_weak (ps_ret pe_non) fin
    · rename_i b b'
      obtain rfl : b = b' := eq_of_beq h1
      exact ps_weak (ps_ret pe_bl) fin
    · rename_i b b'
      obtain rfl : b = b' := of_decide_eq_true h1
      exact ps_weak (ps_ret pe_int) fin
    · rename_i b b'
      obtain rfl : b = b' := of_decide_eq_true h1
      exact ps_weak (ps_ret pe_str) fin
    · cases h1
theorem p_try (c : SCtx X L N sc W k Tb G F sub) {b hh : Sts} {i : Nat} {xs ys : List Stmt} {x : Str} {np hp pos : Pos} (h : clsB Tb sc i x = true) (h2 : chkH hh ys = true)
    (hb : ∀ {W' : WX} {pn : List (Addr × Obj)} {xe : Value → Shared → Prop}, SCtx (X.tr pn xe) L N sc W' k Tb G F sub → PSs (X.tr pn xe) xs (RdS L W' (execs G F sub b))) :
    PS X (.Try xs [.ExceptHandler (some (.Name x np)) none ys hp] [] [] pos) (RdS L W (exec G F sub (.tryo b i hh))) := by
  obtain ⟨h1, h3, h4⟩ := clsB_ok c h
  obtain ⟨cv, e1, e2⟩ := c.ex.nm i x h4
  obtain ⟨a, s, rfl, rfl, h5⟩ := v_chkH h2
  refine ps_weak (ps_try_all (l := [⟨cv, none, fun _ _ _ => RdS L noW (exec G F sub a)⟩]) (tb := fun W' => RdS L W' (execs G F sub b)) (Wo := W) c.hs c.hf (by rw [c.hN]; exact c.nd) c.tk (fun W' pn xe tk pa => hb (c.tr tk pa)) (.cons ⟨h1, h3, .inl e2⟩ True.intro (fun a oe cls d pn _ _ => pss_one (p_hnd h5)) .nil)) fun Dn τ H ⟨σ, S, m, rs, re, p⟩ => ?_
  simp only [exec] at p
  refine ⟨σ, S, m, rs, re, ?_⟩
  cases eb : execs G F sub b σ S with
  | ex e σ1 S1 =>
    rw [eb] at p
    dsimp only at p
    intro cls dd τ' m' H' g' rs' re' rx
    refine ⟨sub e.cls i, by rw [c.hL]; exact (by have z := c.ex.sub e.cls i cls cv rx.1 e1; rw [c.hL] at z; exact z), fun hb a ha => ?_, fun hb => ?_⟩
    · rw [if_pos hb] at p
      refine ⟨σ1, S1, m', rs', re', ?_⟩
      simp only [execs] at p
      have p := p.step g'
      rcases v_hnd h5 with ⟨rfl, _⟩ | ⟨rfl, _⟩ | ⟨rfl, _⟩ | ⟨rfl, _⟩ | ⟨kk, cc, j, _, _, rfl, _⟩
      · simp only [exec] at p ⊢; exact p
      · simp only [exec] at p ⊢; exact p
      · simp only [exec] at p ⊢; exact p
      · simp only [exec] at p ⊢; exact p
      · simp only [exec, ev] at p ⊢; exact p
    · rw [if_neg (by rw [hb]; exact Bool.false_ne_true)] at p
      exact p cls dd τ' m' H' g' rs' re' rx
  | nx σ1 S1 => rw [eb] at p; exact p
  | ret d S1 => rw [eb] at p; exact p
  | brk σ1 S1 => rw [eb] at p; exact p
  | cont σ1 S1 => rw [eb] at p; exact p
  | bad => rw [eb] at p; exact p.elim
/-! ### clauses -/
theorem v_clau {q : Clau} {eh : ExceptHandler} (h : clauB Tb N sc q eh = true) : ∃ x p en st hp, eh = .ExceptHandler (some (.Name x p)) en [st] hp ∧ nmOB N sc en q.nm = true ∧ clsB Tb sc q.c x = true ∧ hsB N sc (flR Tb q.c) en q.nm q.h st = true := by
  unfold clauB at h
  split at h
  obtain ⟨h1, h⟩ := bA h
  obtain ⟨h2, h3⟩ := bA h
  split at h2
  · split at h2
    · split at h3
      · exact ⟨_, _, _, _, _, rfl, h1, h2, h3⟩
      · cases h3
    · cases h2
  · cases h2
theorem clr_re {m : List Addr} {H : Hp} {σ : Env} {τ : L2.St} (re : RE L.K L.fa m H σ τ) (nm : Option Nat) (a : Addr) : RE L.K L.fa m H (clrO nm σ) (slotX nm a τ) := by
  cases nm with
  | none => exact re
  | some i =>
    refine ⟨by show (σ.set i none).length = (τ.set i _).length; rw [List.length_set, List.length_set]; exact re.len, fun j d h => ?_, re.scr⟩
    have h : (σ.set i none)[j]? = some (some d) := h
    by_cases hj : i = j
    · subst hj
      by_cases hl : i < σ.length
      · rw [List.getElem?_set_self hl] at h; cases h
      · rw [List.getElem?_eq_none (by simpa using hl)] at h; cases h
    · rw [List.getElem?_set_ne hj] at h
      obtain ⟨v, h1, h2⟩ := re.at_ j d h
      exact ⟨v, by show (τ.set i _)[j]? = _; rw [List.getElem?_set_ne hj]; exact h1, h2⟩
theorem gone_re {m : List Addr} {H : Hp} {σ : Env} {τ : L2.St} (re : RE L.K L.fa m H σ τ) (i : Nat) : RE L.K L.fa m H (σ.set i none) (τ.set i none) := by
  refine ⟨by rw [List.length_set, List.length_set]; exact re.len, fun j d h => ?_, re.scr⟩
  by_cases hj : i = j
  · subst hj
    by_cases hl : i < σ.length
    · rw [List.getElem?_set_self hl] at h; cases h
    · rw [List.getElem?_eq_none (by simpa using hl)] at h; cases h
  · rw [List.getElem?_set_ne hj] at h
    obtain ⟨v, h1, h2⟩ := re.at_ j d h
    exact ⟨v, by rw [List.getElem?_set_ne hj]; exact h1, h2⟩
/-- the name goes: what was wanted behind the whole is wanted of the suite's end -/
theorem Pout.gone {m : List Addr} {H : Hp} {Dn : Ends} {o : Out} {nm : Option Nat} (hx : ∀ e σ S, o ≠ .ex e σ S) (p : Pout L W m H Dn (o.gone nm)) : Pout L noW m H (endsX nm Dn) o := by
  cases nm with
  | none =>
    cases o with
    | ex e σ S => exact absurd rfl (hx e σ S)
    | nx σ S => exact p
    | brk σ S => exact p
    | cont σ S => exact p
    | ret d S => exact p
    | bad => exact p
  | some i =>
    cases o with
    | ex e σ S => exact absurd rfl (hx e σ S)
    | nx σ S => exact fun τ m1 H1 g rs re => p _ m1 H1 g rs (gone_re re i)
    | brk σ S => exact fun τ m1 H1 g rs re => p _ m1 H1 g rs (gone_re re i)
    | cont σ S => exact fun τ m1 H1 g rs re => p _ m1 H1 g rs (gone_re re i)
    | ret d S => exact p
    | bad => exact p
theorem hexec_ex {as : List D} {h : Hs} {σ : Env} {S : Store} (e : Ex) (σ' : Env) (S' : Store) : hexec as h σ S ≠ .ex e σ' S' := by
  intro z
  cases h <;> simp only [hexec] at z <;> (repeat (first | cases z | split at z))
theorem p_clauses (c : SCtx X L N sc W k Tb G F sub) : ∀ (cl : List Clau) (hs : List ExceptHandler), clausB Tb N sc cl hs = true → ∃ l : List Hd, HdsX X hs l ∧ ∀ (Dn : Ends) (e : Ex) (cls : Value) (dd : Option Addr) (σ : Env) (S : Store) (m : List Addr) (H : Hp) (τ : L2.St),
      RS L.K L.fa m S H → RE L.K L.fa m H σ τ → RX L m H e cls dd → Pout L W m H Dn (clausX sub e cl σ S) → wX X.K W Dn l cls dd τ H := by
  intro cl
  induction cl with
  | nil =>
    intro hs h
    unfold clausB at h
    rw [v_emp h]
    refine ⟨[], .nil, fun Dn e cls dd σ S m H τ rs re rx p => ?_⟩
    simp only [clausX] at p
    exact p cls dd τ m H (.refl _ _) rs re rx
  | cons q r ih =>
    intro hs h
    unfold clausB at h
    cases hs with
    | nil => cases h
    | cons eh hr =>
      obtain ⟨h1, h2⟩ := bA (show (clauB Tb N sc q eh && clausB Tb N sc r hr) = true from h)
      obtain ⟨x, px, en, st, hp, rfl, n1, n2, n3⟩ := v_clau h1
      obtain ⟨l, hd, hw⟩ := ih hr h2
      obtain ⟨c1, c2, c3⟩ := clsB_ok c n2
      obtain ⟨cv, e1, e2⟩ := c.ex.nm q.c x c3
      have nx : NmX X en q.nm := by
        cases hq : q.nm with
        | none =>
          rw [hq] at n1
          cases en with
          | none => exact True.intro
          | some y => cases n1
        | some i =>
          rw [hq] at n1
          cases en with
          | none => cases n1
          | some y =>
            obtain ⟨k1, k2⟩ := bA (show (decide (N[i]? = some y) && (decide (sc.names.lookup y = some .local) && okN y)) = true from n1)
            obtain ⟨k2, k3⟩ := bA k2
            exact ⟨by rw [c.hN]; exact of_decide_eq_true k1, by show X.env.scope.names.lookup y = _; rw [c.hsc]; exact of_decide_eq_true k2⟩
      have no : NmOk X en q.nm := ⟨fun y hy => by
        subst hy
        cases hq : q.nm with
        | none =>
          rw [hq] at n1
          cases n1
        | some i =>
          rw [hq] at n1
          obtain ⟨k1, k2⟩ := bA (show (decide (N[i]? = some y) && (decide (sc.names.lookup y = some .local) && okN y)) = true from n1)
          obtain ⟨k2, k3⟩ := bA k2
          exact ⟨i, rfl, by rw [c.hN]; exact of_decide_eq_true k1, .inl (by rw [c.hsc]; exact of_decide_eq_true k2), (okN_ok k3).1, (okN_ok k3).2.1⟩⟩
      refine ⟨⟨cv, q.nm, fun a cls d => tsH L (flR Tb q.c) q.nm q.h a cls d⟩ :: l, .cons ⟨c1, c2, .inl e2⟩ nx (fun a oe cls d pn hz hf => pss_one (p_hs (fl := flR Tb q.c) c.hN c.nd c.hsc (by rw [← c.hsc]; exact c.kn) c.hL c.un c.ex.xf no hz hf q.h st n3)) hd, fun Dn e cls dd σ S m H τ rs re rx p => ?_⟩
      simp only [clausX] at p
      refine ⟨sub e.cls q.c, by have z := c.ex.sub e.cls q.c cls cv rx.1 e1; exact z, fun hb a na => ?_, fun hb => ?_⟩
      · rw [if_pos hb] at p
        cases hs : slotO q.nm σ with
        | false => rw [hs, if_neg Bool.false_ne_true] at p; exact p.elim
        | true =>
          rw [hs, if_pos rfl] at p
          refine ⟨m, S, clrO q.nm σ, e, ⟨rs, clr_re re q.nm a, fun i hi => ?_, rx, fun hne => ?_⟩, p.gone hexec_ex⟩
          · show (slotX q.nm a τ)[i]? = _
            rw [hi] at hs ⊢
            show (τ.set i _)[i]? = _
            rw [List.getElem?_set_self (by rw [← re.len]; exact of_decide_eq_true hs)]
          · rw [← c.ex.fl] at hne ⊢
            exact c.ex.flx _ _ hb hne
      · rw [if_neg (by rw [hb]; exact Bool.false_ne_true)] at p
        exact hw Dn e cls dd σ S m H τ rs re rx p
theorem p_tryx (c : SCtx X L N sc W k Tb G F sub) {b : Sts} {cl : List Clau} {xs : List Stmt} {hs : List ExceptHandler} {pos : Pos} (h0 : (!cl.isEmpty) = true) (h : clausB Tb N sc cl hs = true)
    (hb : ∀ {W' : WX} {pn : List (Addr × Obj)} {xe : Value → Shared → Prop}, SCtx (X.tr pn xe) L N sc W' k Tb G F sub → PSs (X.tr pn xe) xs (RdS L W' (execs G F sub b))) :
    PS X (.Try xs hs [] [] pos) (RdS L W (exec G F sub (.tryx b cl))) := by
  obtain ⟨l, hd, hw⟩ := p_clauses c cl hs h
  cases hs with
  | nil =>
    cases cl with
    | nil => cases h0
    | cons _ _ => cases h
  | cons eh hr =>
    refine ps_weak (ps_try_all (tb := fun W' => RdS L W' (execs G F sub b)) c.hs c.hf (by rw [c.hN]; exact c.nd) c.tk (fun W' pn xe tk pa => hb (c.tr tk pa)) hd) fun Dn τ H ⟨σ, S, m, rs, re, p⟩ => ?_
    simp only [exec] at p
    refine ⟨σ, S, m, rs, re, ?_⟩
    cases eb : execs G F sub b σ S with
    | ex e σ1 S1 =>
      rw [eb] at p
      dsimp only at p
      exact fun cls dd τ' m' H' g' rs' re' rx => hw Dn e cls dd σ1 S1 m' H' τ' rs' re' rx (p.step g')
    | nx σ1 S1 => rw [eb] at p; exact p
    | ret d S1 => rw [eb] at p; exact p
    | brk σ1 S1 => rw [eb] at p; exact p
    | cont σ1 S1 => rw [eb] at p; exact p
    | bad => rw [eb] at p; exact p.elim
/-! ### all -/
mutual
theorem s_st : ∀ (a : St) {X : Cx} {W : WX}, SCtx X L N sc W k Tb G F sub → ∀ s, cS Tb N sc a s = true → PS X s (RdS L W (exec G F sub a))
  | .set tg t, _, _, c, s, h => by
    simp only [cS] at h
    obtain ⟨a, e, pos, rfl, h1⟩ := v_set h
    exact p_set c h1
  | .par is ts, _, _, c, s, h => by
    simp only [cS] at h
    obtain ⟨a, e, pos, rfl, h1⟩ := v_set h
    obtain ⟨es, k1, p1, vs, k2, p2, rfl, rfl, h2⟩ := v_tup h1
    exact p_par c h2
  | .setIx o i t, _, _, c, s, h => by
    simp only [cS] at h
    obtain ⟨a, e, pos, rfl, h1⟩ := v_set h
    obtain ⟨ha, h2⟩ := bA h1
    obtain ⟨hb, h3⟩ := bA h2
    obtain ⟨eo, ei, sp, rfl, h4, h5, h6⟩ := v_sub h3
    exact p_setIx c h4 h5 h6 hb ha
  | .swp o i p j t, _, _, c, s, h => by
    simp only [cS] at h
    obtain ⟨a, e, pos, rfl, h1⟩ := v_set h
    obtain ⟨eo, ei, s1, ep, ej, s2, k1, q1, rfl, a1, a2, a3, a4, a5, a6, a7, a8, a9, a10⟩ := v_swp h1
    exact p_swp c a1 a2 a3 a4 a5 a6 a7 a8 a9 a10
  | .aug i op t, _, _, c, s, h => by
    simp only [cS] at h
    obtain ⟨a, o, e, pos, rfl, h1⟩ := v_aug h
    obtain ⟨h1, h2⟩ := bA h1
    obtain ⟨h2, h3⟩ := bA h2
    obtain ⟨h3, h4⟩ := bA h3
    obtain ⟨x, p, rfl, h5, h6⟩ := v_augN h1
    exact p_aug c h5 h6 h2 h3 h4
  | .augIx o i op t, _, _, c, s, h => by
    simp only [cS] at h
    obtain ⟨a, oo, e, pos, rfl, h1⟩ := v_aug h
    obtain ⟨h1, h2⟩ := bA h1
    obtain ⟨h2, h3⟩ := bA h2
    obtain ⟨h3, h4⟩ := bA h3
    obtain ⟨eo, ei, sp, rfl, h5, h6, h7⟩ := v_sub h1
    exact p_augIx c h5 h6 h7 h2 h3 h4
  | .expr t, _, _, c, s, h => by
    simp only [cS] at h
    obtain ⟨e, pos, rfl, h1⟩ := v_expr h
    obtain ⟨h1, h2⟩ := bA h1
    refine ps_weak (ps_expr ((s_tm t).e c.toCtx e h1) ?_) fun Dn τ H ⟨σ, S, m, rs, re, p⟩ => ?_
    · cases e <;> first | rfl | (exact absurd (show false = true from h2) Bool.false_ne_true)
    · simp only [exec] at p
      exact ⟨σ, S, m, rs, re, (Pout.of rs re p).imp fun v H1 ⟨d, S1, m1, g1, rs1, r1, p1⟩ => p1 τ m1 H1 (.refl _ _) rs1 (re.mono g1 rs)⟩
  | .ret t, _, _, c, s, h => by
    simp only [cS] at h
    obtain ⟨o, pos, rfl, h1⟩ := v_ret h
    obtain ⟨e, rfl, h2⟩ := v_some h1
    refine ps_weak (ps_ret ((s_tm t).e c.toCtx e h2)) fun Dn τ H ⟨σ, S, m, rs, re, p⟩ => ?_
    simp only [exec] at p
    exact ⟨σ, S, m, rs, re, (Pout.of rs re p).imp fun v H1 ⟨d, S1, m1, g1, rs1, r1, p1⟩ => p1 v m1 H1 (.refl _ _) rs1 r1⟩
  | .retN, _, _, c, s, h => by
    simp only [cS] at h
    obtain ⟨o, pos, rfl, h1⟩ := v_ret h
    rw [v_none h1]
    exact ps_weak ps_retN fun Dn τ H ⟨σ, S, m, rs, re, p⟩ => by simp only [exec] at p; exact p _ m H (.refl _ _) rs (.c .non)
  | .ife t a b, _, _, c, s, h => by
    simp only [cS] at h
    obtain ⟨e, xs, ys, pos, rfl, h1, h2, h3⟩ := v_if h
    refine ps_weak (ps_if ((s_tm t).tt c.toCtx e h1) (s_sts a c xs h2) (s_sts b c ys h3)) fun Dn τ H ⟨σ, S, m, rs, re, p⟩ => ?_
    simp only [exec] at p
    refine ⟨σ, S, m, rs, re, (Pout.test rs re (fun d S hd => ?_) p).imp fun d H1 ⟨S1, m1, g1, rs1, p1⟩ => ?_⟩
    · split
      · exact absurd rfl (hd _)
      · exact absurd rfl (hd _)
      · rfl
    · cases d with
      | true => rw [if_pos rfl]; exact ⟨σ, S1, m1, rs1, re.mono g1 rs, p1⟩
      | false => rw [if_neg Bool.false_ne_true]; exact ⟨σ, S1, m1, rs1, re.mono g1 rs, p1⟩
  | .whil t b, _, _, c, s, h => by
    simp only [cS] at h
    obtain ⟨e, xs, pos, rfl, h1, h2⟩ := v_whil h
    exact p_whil c h1 (s_sts b c xs h2)
  | .for_ tg r b, _, _, c, s, h => by
    simp only [cS] at h
    obtain ⟨a, it, xs, pos, rfl, h1, h2⟩ := v_for h
    obtain ⟨h1, h3⟩ := bA h1
    obtain ⟨h3, h4⟩ := bA h3
    exact p_for c h1 h3 h4 (s_sts b c xs h2)
  | .brk, _, _, c, s, h => by
    simp only [cS] at h
    obtain ⟨p, rfl⟩ := v_brk h
    exact ps_weak ps_break fun Dn τ H ⟨σ, S, m, rs, re, p⟩ => by simp only [exec] at p; exact p τ m H (.refl _ _) rs re
  | .cont, _, _, c, s, h => by
    simp only [cS] at h
    obtain ⟨p, rfl⟩ := v_cont h
    exact ps_weak ps_continue fun Dn τ H ⟨σ, S, m, rs, re, p⟩ => by simp only [exec] at p; exact p τ m H (.refl _ _) rs re
  | .pass, _, _, c, s, h => by
    simp only [cS] at h
    rcases v_pass h with ⟨p, rfl⟩ | ⟨e, pos, rfl, h1⟩
    · exact ps_weak ps_pass fun Dn τ H ⟨σ, S, m, rs, re, p⟩ => by simp only [exec] at p; exact p τ m H (.refl _ _) rs re
    · obtain ⟨x, j, p, rfl⟩ := v_doc h1
      exact ps_weak ps_doc fun Dn τ H ⟨σ, S, m, rs, re, p⟩ => by simp only [exec] at p; exact p τ m H (.refl _ _) rs re
  | .stop, _, _, c, s, h => ps_weak ps_never fun Dn τ H ⟨σ, S, m, rs, re, p⟩ => by simp only [exec] at p; exact p
  | .raise i .nil, _, _, c, s, h => by
    simp only [cS] at h
    rw [if_pos (show isNil .nil = true from rfl)] at h
    obtain ⟨e, pos, rfl, h1⟩ := v_rz h
    obtain ⟨x, p, q, rfl, h2, h3⟩ := v_rzB h1
    exact p_raise c h2 h3
  | .raise i (.cons a r), _, _, c, s, h => by
    simp only [cS] at h
    rw [if_neg (show ¬ isNil (.cons a r) = true from Bool.false_ne_true)] at h
    obtain ⟨e, pos, rfl, h1⟩ := v_rz h
    exact p_raise2 c h1
  | .tryx b cl, _, _, c, s, h => by
    simp only [cS] at h
    obtain ⟨xs, hs, pos, rfl, h1, h2⟩ := v_try h
    exact p_tryx c (bA h1).1 (bA h1).2 fun c' => s_sts b c' xs h2
  | .tryo b i hh, _, _, c, s, h => by
    simp only [cS] at h
    obtain ⟨xs, hs, pos, rfl, h1, h2⟩ := v_try h
    obtain ⟨x, np, ys, hp, rfl, h3, h4⟩ := v_only h1
    exact p_try c h3 h4 fun c' => s_sts b c' xs h2
theorem s_sts : ∀ (a : Sts) {X : Cx} {W : WX}, SCtx X L N sc W k Tb G F sub → ∀ ss, cSs Tb N sc a ss = true → PSs X ss (RdS L W (execs G F sub a))
  | .nil, _, _, c, ss, h => by
    simp only [cSs] at h
    rw [v_emp h]
    exact pss_weak pss_nil fun Dn τ H ⟨σ, S, m, rs, re, p⟩ => by simp only [execs] at p; exact p τ m H (.refl _ _) rs re
  | .cons a r, _, _, c, ss, h => by
    simp only [cSs] at h
    obtain ⟨s, sr, rfl, h1, h2⟩ := v_cons h
    refine pss_weak (pss_cons (s_st a c s h1) (s_sts r c sr h2)) fun Dn τ H ⟨σ, S, m, rs, re, p⟩ => ?_
    simp only [execs] at p
    exact ⟨σ, S, m, rs, re, Pout.next p⟩
end
end
end Rf

set_option Elab.async false
set_option maxRecDepth 100000
set_option maxHeartbeats 1000000
/-! Rf, part Q: defs. -/
namespace Rf
open PySem PySem.Spec PyProof.Rows L2

theorem deeper_guards {A : Around} {env : PySem.Env} : (A.deeper env).guards = A.guards := by first | rfl | simp [Around.deeper]
section
variable {P : Program} {w : World} {K : PySem.W.Frag} {mg : Str → Option Value} {base : Heap} {x qual : Str} {params : Arguments} {body : List Stmt} {scope : Scope} {dvs : List V} {kws : List (Str × V)} {f : Addr} {fd : FuncData}
/-- a def's promise by its body -/
theorem fn_ofG {N ps : List Str} {k : Nat} {sp : Sp} (F : FunD K x qual params body scope dvs kws f fd) (S : FnScope N ps scope) (len : ∀ vs H Q E, sp vs H Q E → vs.length = ps.length)
    (hbody : ∀ (cdv : Value) (A : Around) (outer : List PySem.Env) (s : Shared) (H : Hp) (vs : List V) (Q : VK) (E : XK), Room k (A.deeper (envOfC qual scope s.heap.objs.size f cdv)) → A.guards = some [] → sp vs H Q E →
      ∃ t : TS, PSs (cxOf (L2N.CX P w) P w K mg base N qual scope f cdv A outer s H E) body t ∧ t { nx := fun _ H' => Q .non H', rt := Q } (L2.start N vs) H) : FnG P w K mg base (k + 1) f fd ps sp := by
  obtain ⟨oc, od, dV, kV, doc, pm, an, cdv, ct, osl, rfl, lk, hcd, _, _⟩ := F.ex
  refine ⟨len, fun A outer s H args us vs Q E room hg e0 bnd rv hsp => ?_⟩
  have inK : K.In s.heap := e0.mod.kin.keeps fun b o e => (e0.bs b o e).1
  have noL : s.heap.NoLimit := e0.mod.nolimit.keeps fun b o e => (e0.bs b o e).1
  refine codeAny_call_function room.depth (inK _ _ lk) rfl S.co S.gen rfl (PySem.W.codeRec_of inK hcd) (bnd _ _ _ _ ?_)
  refine wpAny_newFunctionEnv_cells S.kind (fun y hy => ?_) fun env eEnv s1 ic => ?_
  · rcases S.par y.1 (List.of_mem_zip (show (y.1, y.2) ∈ ps.zip us from hy)).1 with q | q
    · exact .inl q
    · exact .inr ⟨q, PySem.W.cellsFrom_some _ _ _ (.inl q)⟩
  subst eEnv
  refine ⟨noL.keeps ic.toInCall.keep, codeAny_func ?_⟩
  obtain ⟨t, pt, ht⟩ := hbody cdv A outer s H vs Q E (room.deeper _) hg hsp
  have J0 := inv_start (CX := L2N.CX P w) (E := E) S room.hd e0 (len _ _ _ _ hsp) rv ic
  refine wpAny_mono (pt.run [] s1 (L2.start N vs) H _ J0 ht) (fun fl s' h => ?_) fun _ _ h => h
  match fl, h with
  | .ret u, ⟨v, σ', H', J, r, q⟩ => exact ⟨v, H', J.os, J.bare, J.base, J.hok, r, q⟩
  | .next, ⟨σ', H', J, q⟩ => exact ⟨.non, H', J.os, J.bare, J.base, J.hok, rfl, q⟩
  | .brk, ⟨_, _, _, q⟩ => exact q.elim
  | .cont, ⟨_, _, _, q⟩ => exact q.elim
end
structure RowOk (Tb : Tabs) (r : Row) : Prop where
  sc : FnScope r.N r.ps (defScope r.st)
  body : cSs Tb r.N (defScope r.st) r.body (defBody r.st) = true
  bind : ∀ (kV doc pm : Value) (an : Option Addr) (cdv ct : Value) (us : List Value), us.length = r.ps.length → bindArgs (PySem.W.fnOf r.name r.name (defArgs r.st) (defBody r.st) (defScope r.st) .none kV doc pm an cdv ct) ⟨us, []⟩ = pure (r.ps.zip us)
def Tabs.defs (Tb : Tabs) (i : Nat) : Option Def := (Tb.rows[i]?).map fun r => ⟨r.N.length, r.ps.length, r.body⟩
theorem re_start {K : PySem.W.Frag} {fa : Nat → Option Addr} {m : List Addr} {H : Hp} {N : List Str} {ds : List D} {vs : List V} (rl : RpL K fa m H ds vs) (hs : ∀ a, fa SCR = some a → ∃ o u, H a = some (.frz o u)) : RE K fa m H (Rf.start N.length ds) (L2.start N vs) := by
  have hl := rl.length
  refine ⟨?_, fun i d h => ?_, hs⟩
  · unfold Rf.start L2.start
    rw [List.length_append, List.length_append, List.length_map, List.length_map, List.length_replicate, List.length_replicate, hl]
  · unfold Rf.start at h
    by_cases hi : i < ds.length
    · rw [List.getElem?_append_left (by simpa using hi), List.getElem?_map] at h
      obtain ⟨d', e1, e2⟩ := Option.map_eq_some_iff.mp h
      cases e2
      obtain ⟨v, ev, r⟩ := rl.get e1
      refine ⟨v, ?_, r⟩
      unfold L2.start
      rw [List.getElem?_append_left (by simpa [← hl] using hi), List.getElem?_map, ev]
      rfl
    · rw [List.getElem?_append_right (by simpa using hi), List.getElem?_replicate] at h
      split at h <;> cases h
section
variable {P : Program} {w : World} {mg : Str → Option Value} {base : Heap} {L : Pl} {Tb : Tabs} {G : Nat → Option D} {sub : Nat → Nat → Bool}
theorem fns (fdOf : Nat → FuncData) (hf : ∀ (i : Nat) (r : Row), Tb.rows[i]? = some r → ∃ a, L.fa i = some a ∧ mg r.name = some (.ref a) ∧ FunD L.K r.name r.name (defArgs r.st) (defBody r.st) (defScope r.st) [] [] a (fdOf i))
    (hr : ∀ (i : Nat) (r : Row), Tb.rows[i]? = some r → RowOk Tb r) (mod : ∀ X : Cx, X.mg = mg → ModOk X L Tb G) (ex : ∀ X : Cx, X.prog = P → X.K = L.K → X.mg = mg → ExOk X L Tb sub)
    (cf : ∀ (f : Nat) (a : Addr), L.fa f = some a → f < SCR → ∃ r : Row, Tb.rows[f]? = some r) (few : Tb.rows.length ≤ SCR) :
    ∀ (k i : Nat) (r : Row), Tb.rows[i]? = some r → ∃ a, L.fa i = some a ∧ mg r.name = some (.ref a) ∧ PySem.W.keepIn L.K (.ref a) = true ∧ Binds L.K (fdOf i) r.ps [] ∧ FnG P w L.K mg base (k + 2) a (fdOf i) r.ps (spF L r.ps.length (call Tb.defs G sub k i)) ∧ (∀ ds S, ds.length ≠ r.ps.length → call Tb.defs G sub k i ds S = .bad) := by
  intro k
  induction k with
  | zero =>
    intro i r hi
    obtain ⟨a, h1, h2, F⟩ := hf i r hi
    refine ⟨a, h1, h2, F.kp, F.bindsN (hr i r hi).bind, ⟨fun vs H Q E ⟨_, m, S, ds, _, rl, hl, _⟩ => by rw [← rl.length, hl], fun A outer s H args us vs Q E _ _ _ _ _ ⟨_, m, S, ds, _, rl, hl, h⟩ => ?_⟩, fun _ _ _ => rfl⟩
    exact h.elim
  | succ k ih =>
    intro i r hi
    obtain ⟨a, h1, h2, F⟩ := hf i r hi
    have ro := hr i r hi
    have hd : Tb.defs i = some ⟨r.N.length, r.ps.length, r.body⟩ := by unfold Tabs.defs; rw [hi]; rfl
    refine ⟨a, h1, h2, F.kp, F.bindsN ro.bind, fn_ofG F ro.sc (fun vs H Q E ⟨_, m, S, ds, _, rl, hl, _⟩ => by rw [← rl.length, hl]) fun cdv A outer s H vs Q E room hg ⟨st, m, S, ds, rs, rl, hl, h⟩ => ?_, fun ds S hn => ?_⟩
    · have c : SCtx (cxOf (L2N.CX P w) P w L.K mg base r.N r.name (defScope r.st) a cdv A outer s H E) L r.N (defScope r.st) (fun cls d _ H' => E cls d H') (k + 2) Tb G (call Tb.defs G sub k) sub :=
        { hL := rfl, hN := rfl, nd := ro.sc.nd, hsc := rfl, calm := rfl, hd := room.hd, un := by have := room.un; show (A.deeper _).units + 200 < cLine; omega, gd := hg, tk := L2N.takes_of rfl rfl rfl rfl, room := room,
          cal := fun f r' hr' => let ⟨a', z⟩ := ih f r' hr'; ⟨a', fdOf f, z⟩, mod := mod _ rfl, cf := cf, few := few, hp := passes_of rfl, hs := rfl, hf := rfl, fn := fun _ => rfl, kn := ro.sc.kind, ex := ex _ rfl rfl rfl, rm := room.mono (by omega) }
      refine ⟨_, s_sts r.body c _ ro.body, Rf.start r.N.length ds, S, m, rs, re_start rl st, ?_⟩
      unfold call at h
      rw [hd] at h
      dsimp only at h
      rw [if_pos hl] at h
      cases eb : execs G (call Tb.defs G sub k) sub r.body (Rf.start r.N.length ds) S with
      | nx σ1 S1 =>
        rw [eb] at h
        exact fun τ m2 H2 g2 rs2 re2 => h .non m2 H2 g2 rs2 (.c .non)
      | ret d S1 =>
        rw [eb] at h
        exact h
      | ex e σ1 S1 =>
        rw [eb] at h
        exact fun cls dd τ m2 H2 g2 rs2 re2 rx => h cls dd m2 H2 g2 rs2 rx
      | brk σ1 S1 => rw [eb] at h; exact h.elim
      | cont σ1 S1 => rw [eb] at h; exact h.elim
      | bad => rw [eb] at h; exact h.elim
    · unfold call
      rw [hd]
      dsimp only
      rw [if_neg hn]
end
end Rf

set_option Elab.async false
set_option maxRecDepth 100000
set_option maxHeartbeats 1000000
/-! Rf, part R: a law's end. -/
namespace Rf
open PySem PySem.Spec PyProof.Rows L2 PySem.W PySem.Calls

theorem rp_script {K : PySem.W.Frag} {fa : Nat → Option Addr} {m : List Addr} {H : Hp} : ∀ ns : List Int, RpL K fa m H (ns.map D.int) (ns.map V.int)
  | [] => .nil
  | n :: ns => .cons (.c (.int n)) (rp_script ns)
/-- a heap in which at most the script is told -/
structure Lone (K : PySem.W.Frag) (hp : Heap) (scr : Addr) (raw : List Value) (H : Hp) : Prop where
  only : ∀ b u, H b = some u → b = scr ∧ ∃ ob xs, u = .frz ob (.lst xs)
  here : hp.get? scr = some { cls := .type "list", data := .seq raw.toArray }
  out : H scr ≠ none → K.lookup scr = none
section
variable {P : Program} {w : World} {K : PySem.W.Frag} {mg mb : Str → Option Value} {k : Nat} {def_ scr : Addr} {fd : FuncData} {x : Str} {sp : Sp} {st : Shared} {raw : List Value} {H : Hp}
theorem Lone.gone (o : Lone K st.heap scr raw H) {b : Addr} {u : Obj} {es : Array DictEntry} {ep : Nat} (e : st.heap.get? b = some u) (hd : u.data = .dict es ep) : H b = none := by
  cases hb : H b with
  | none => rfl
  | some z =>
    obtain ⟨rfl, _⟩ := o.only b z hb
    rw [o.here] at e
    cases e
    exact absurd hd (by intro z; cases z)
theorem Lone.ns (o : Lone K st.heap scr raw H) {b : Addr} {f : Str → Option Value} (h : st.heap.Ns b f) : (hidT st.heap H).Ns b f := by
  obtain ⟨u, es, ep, h1, h2, h3⟩ := h
  exact ⟨u, es, ep, hidT_get h1 (o.gone h1 h2), h2, h3⟩
theorem Lone.kin (o : Lone K st.heap scr raw H) (kin : K.In st.heap) : K.In (hidT st.heap H) := by
  intro b u e
  refine hidT_get (kin b u e) ?_
  cases hb : H b with
  | none => rfl
  | some z =>
    obtain ⟨rfl, _⟩ := o.only b z hb
    rw [o.out (by rw [hb]; exact Option.some_ne_none z)] at e
    cases e
/-- the law's def, called by the claim -/
theorem lone_call (o : Lone K st.heap scr raw H) (kin : K.In st.heap) (hns : st.heap.Ns mainGlobals mg) (hbn : st.heap.Ns builtinsNs mb) (hbb : ∀ y : Str, y ≠ "__name__" → mb y = bootBuiltins y) (lim : st.heap.NoLimit) (quiet : st.gens = #[]) (hr : Room k callerA) (hok : HOk P w H st.heap)
    (prom : ∀ base : Heap, K.In base → base.Ns mainGlobals mg → FnG P w K mg base k def_ fd [x] sp) (bnd : ∀ (s : Shared) (u : Value), BindsTo s fd ⟨[u], []⟩ [(x, u)]) (hsp : sp [.ref scr] H (fun v _ => v = .bl true) fun _ _ _ => False) :
    codeAny (model P w) callerA (.call (.ref def_) ⟨[.ref scr], []⟩) (fun r s' => r = .ok (.ret (.bool true)) ∧ OldK st.heap s'.heap ∧ s'.os = st.os ∧ AllBare s'.gens) st := by
  have md : Mod K mg (hidT st.heap H) := ⟨o.kin kin, o.ns hns, ⟨mb, o.ns hbn, hbb⟩, lim.elim fun m q => ⟨m, o.ns q.1, q.2⟩⟩
  have ev : Env0 P w K mg (hidT st.heap H) callerA [] st H :=
    ⟨rfl, md, fun b u q => of_hidT q, Nat.le_of_eq (hidT_size _ _), trivial, fun b q => (nomatch q), hok, .of_eq quiet⟩
  have run := (prom _ (o.kin kin) (o.ns hns)).run callerA [] st H ⟨[.ref scr], []⟩ [.ref scr] [.ref scr] _ _ hr rfl ev (bnd st (.ref scr)) (.cons rfl .nil) hsp
  refine codeAny_mono run fun res s' hq => ?_
  match res, hq with
  | .error e, ⟨_, _, _, _, _, _, _, _, _, _, _, _, bot⟩ => exact bot.elim
  | .ok .next, bot => exact False.elim bot
  | .ok .brk, bot => exact False.elim bot
  | .ok .cont, bot => exact False.elim bot
  | .ok (.ret u), ⟨v, H', hos, hbare, un, hok', rel, hv⟩ =>
    have hv : v = .bl true := hv
    subst hv
    have hu : u = Value.bool true := rel
    subst hu
    refine ⟨rfl, OldK.of_keep fun b u e => ?_, hos, hbare⟩
    cases hb : H b with
    | none => exact un.keep b u e hb (fun z => nomatch z) (fun z => nomatch z)
    | some z =>
      obtain ⟨_, ob, xs, rfl⟩ := o.only b z hb
      have now := (hok' b _ (un.frzs b ob _ hb)).1
      have old := (hok b _ hb).1
      rw [e] at old
      cases old
      exact now
end
/-- a law, from what its def comes to -/
theorem walk_rf {l : PySem.W.OpenLaw} {n k : Nat} {q : Program} {loose : List Str} {XP : (Str → Option Value) → Heap → Prop} {YP : World → Heap → Prop} {d : DefRec} {x : Str} {Fn : List D → Store → Res D} (Lof : PySem.W.Frag → Option Addr → Pl) (hLK : ∀ K s, (Lof K s).K = K) (hLs : ∀ K s, (Lof K s).fa SCR = s)
    (hn : l.most = some n) (hn2 : n ≤ sizeLine) (hdf : d.params.defaults = []) (hr : Room k callerA)
    (F : ∀ (w : World) (mg : Str → Option Value) (fa : Addr) (h : Heap), YP w h → h.Ns mainGlobals mg → mg d.name = some (.ref fa) → ∃ (K : PySem.W.Frag) (fd : FuncData), K.In h ∧ (∀ (s : Shared) (u : Value), BindsTo s fd ⟨[u], []⟩ [(x, u)]) ∧
      ∀ (base : Heap) (s : Option Addr), K.In base → base.Ns mainGlobals mg → FnG l.prog w K mg base k fa fd [x] (spF (Lof K s) 1 Fn))
    (law : ∀ ns : List Int, ns.length ≤ n → ∃ S', Fn [.fz (ns.map D.int)] [] = .ok (.bl true) S') :
    PySem.W.WalkO q loose XP YP l.row.toRowW d [] (fun f vs => PySem.call f vs) := by
  refine Att.attach_call hn hdf fun w s₀ st mg mb fa o pm cd doc scr raw ns G Y ho hd hcd hmg hobj hints hlen hg => ?_
  obtain ⟨K, fd, kin, hb, hF⟩ := F w mg fa _ Y G.T.g hmg
  obtain ⟨S', hlaw⟩ := law ns hlen
  have small : (ns.map V.int).length ≤ sizeLine := by rw [List.length_map]; exact Nat.le_trans hlen hn2
  have promise : ∀ (s : Option Addr) (H : Hp), FzL K (Lof K s).fa H scr (ns.map V.int) → Stand (Lof K s) H → spF (Lof K s) 1 Fn [.ref scr] H (fun v _ => v = .bl true) fun _ _ _ => False := by
    intro s H hz hst
    refine ⟨hst, [], [], [.fz (ns.map D.int)], ⟨rfl, List.nodup_nil, fun i ob e => by simp at e⟩, .cons (.fz (by rw [hLK]; exact hz) small (rp_script ns)) .nil, rfl, ?_⟩
    rw [hlaw]
    intro v m' H' _ _ r
    cases r
    rfl
  cases hk : K.lookup scr with
  | some ob =>
    have same := kin scr ob hk
    rw [hobj] at same
    cases same
    have szl : raw.toArray.size ≤ sizeLine := by
      rw [List.size_toArray, hints.length]
      exact Nat.le_trans hlen hn2
    exact lone_call (H := fun _ => none) ⟨fun b u z => (nomatch z), hobj, fun z => absurd rfl z⟩ kin G.T.g G.T.b G.T.builtins G.T.nolimit hg hr (fun b u z => (nomatch z)) (fun base i1 i2 => hF base none i1 i2) hb
      (promise none _ (.inr (.inr ⟨_, raw.toArray, _, hk, rfl, rfl, rfl, szl, by simpa using vals_ints hints⟩)) fun a z => by rw [hLs] at z; cases z)
  | none =>
    generalize hH : (fun b => if b = scr then some (HO.frz { cls := .type "list", data := .seq raw.toArray } (.lst (ns.map V.int))) else none : Hp) = H
    have at1 : H scr = some (.frz { cls := .type "list", data := .seq raw.toArray } (.lst (ns.map V.int))) := by rw [← hH]; exact if_pos rfl
    have at2 : ∀ b u, H b = some u → b = scr ∧ u = .frz { cls := .type "list", data := .seq raw.toArray } (.lst (ns.map V.int)) := fun b u z => by
      rw [← hH] at z
      by_cases hb : b = scr
      · exact ⟨hb, (Option.some.inj ((if_pos hb).symm.trans z)).symm⟩
      · exact nomatch (if_neg hb).symm.trans z
    refine lone_call (H := H) ⟨fun b u z => ⟨(at2 b u z).1, _, _, (at2 b u z).2⟩, hobj, fun _ => hk⟩ kin G.T.g G.T.b G.T.builtins G.T.nolimit hg hr (fun b u z => ?_) (fun base i1 i2 => hF base (some scr) i1 i2) hb
      (promise (some scr) _ (.inl ⟨hLs K _, _, at1⟩) fun a z => by rw [hLs] at z; cases z; exact ⟨_, _, at1⟩)
    obtain ⟨rfl, rfl⟩ := at2 b u z
    exact ⟨hobj, small, raw, _, vals_ints hints, hobj⟩
end Rf

set_option Elab.async false
set_option maxRecDepth 100000
set_option maxHeartbeats 1000000
/-! Rf, part Xh: what the head tells of exceptions with fields. -/
namespace Rf
open PySem PySem.Spec PyProof.Rows L2

/-- an exception class: its name, its __init__, that one's parameters -/
structure XRow where
  name : Str
  qual : Str
  st : Stmt
  sf : Str
  fs : List Str
def clsBody : Stmt → List Stmt
  | .ClassDef _ _ _ b _ _ _ _ _ _ _ => b
  | _ => []
def an2 {a b : Bool} (h : (a && b) = true) : a = true ∧ b = true := Bool.and_eq_true_iff.mp h
def mroB (C : Addr) : List Value → Bool
  | .ref c :: bm => decide (c = C) && PySem.HandSPX.refsVE bm
  | _ => false
def slB : List (Option Value) → Bool
  | [_, _, _, _, some (.builtin n), _] => decide (n = "ValueError.__new__")
  | _ => false
def clsXB (K : PySem.W.Frag) (C : Addr) : Bool := match K.lookup C with
  | some ⟨.type t, _, .cls cd, sl⟩ => decide (t = "type") && (cd.hasDict && (!cd.hasDel && (mroB C cd.mro && slB sl.toList)))
  | _ => false
def eqO (a b : Option (Option Value)) : Bool := decide (a = b)
def oexB (K : PySem.W.Frag) (C : Addr) : Bool := clsXB K C && (eqO (PySem.W.findIn K (.ref C) "__setattr__") (some (some (.builtin "object.__setattr__"))) && (decide (PySem.W.subIn K (.ref C) (.type "BaseException") = some true) && (decide (PySem.W.typeIn K (.ref C) = some (.type "type")) && PySem.W.keepIn K (.ref C))))
def cellB (K : PySem.W.Frag) (cc C : Addr) : Bool := match K.lookup cc with
  | some ⟨_, _, .cell (some (.ref c)), _⟩ => decide (c = C)
  | _ => false
def closB (K : PySem.W.Frag) (C : Addr) : List (Str × Addr) → Bool
  | [(y, cc)] => decide (y = "__class__") && cellB K cc C
  | _ => false
def fileB (file : Str) : Option Value → Bool
  | some (.str x _) => decide (x = file)
  | _ => false
def codB (K : PySem.W.Frag) (file q : Str) : Value → Bool
  | .ref cda => PySem.W.codeIn K (.ref cda) q && (match K.lookup cda with
    | some ⟨_, _, .fields vs, _⟩ => fileB file vs[2]?
    | _ => false)
  | _ => false
def nonB : Value → Bool
  | .none => true
  | _ => false
def iniFB (K : PySem.W.Frag) (C : Addr) (file : Str) (f : Addr) : Bool := match K.lookup f with
  | some ⟨_, _, .func fd, _⟩ => closB K C fd.closure && (codB K file fd.qualname fd.code && nonB fd.defaults)
  | _ => false
def iexK (K : PySem.W.Frag) (file x : Str) (fs : List Str) : Bool :=
  oexB K (He.ga K x) && (eqO (PySem.W.findIn K (.ref (He.ga K x)) "__init__") (some (some (.ref (He.ma K (He.ga K x) "__init__")))) && (decide (PySem.W.typeIn K (.ref (He.ma K (He.ga K x) "__init__")) = some (.type "function")) &&
    (iniFB K (He.ga K x) file (He.ma K (He.ga K x) "__init__") && (decide (PySem.W.mroIn K (He.ga K x) (.ref (He.ga K x)) = some true) && (eqO (PySem.W.ks_superIn K (He.ga K x) (He.ga K x) "__init__") (some (some (.builtin "ValueError.__init__"))) &&
      (decide (PySem.W.subIn K (.ref (He.ga K x)) (.type "ValueError") = some true) && (eqO (PySem.W.nsIn K cStatics "thirdparty.any") (some none) && (xfB K (He.ga K x) && fs.all fun g => eqO (PySem.W.findIn K (.ref (He.ga K x)) g) (some none)))))))))
abbrev FnI : Type := Option (Str × Str × Arguments × FuncBody × Scope × Addr × Addr)
def fnI (K : PySem.W.Frag) (x : Str) : FnI := match K.lookup (He.ma K (He.ga K x) "__init__") with
  | some ⟨_, _, .func fd, _⟩ => some (fd.name, fd.qualname, fd.params, fd.body, fd.scope, fd.globals, fd.builtins)
  | _ => none
def XRow.val (r : XRow) : FnI := some ("__init__", r.qual, defArgs r.st, .stmts (defBody r.st), defScope r.st, mainGlobals, builtinsNs)

section
variable {K : PySem.W.Frag} {C cc f : Addr} {file x : Str} {fs : List Str}
theorem clsXB_ok (h : clsXB K C = true) : ∃ nm q N bs bm sn sub ab col dd k0 k1 k2 k3 k5, K.lookup C = some (excClassObj nm q C N bs bm true sn sub ab col dd k0 k1 k2 k3 k5 "ValueError.__new__") ∧ PySem.HandSPX.refsVE bm = true := by
  unfold clsXB at h
  split at h
  · rename_i t dd cd sl e
    obtain ⟨h1, h⟩ := an2 h
    obtain ⟨h2, h⟩ := an2 h
    obtain ⟨h3, h⟩ := an2 h
    obtain ⟨h4, h5⟩ := an2 h
    unfold mroB at h4
    split at h4
    · rename_i c bm em
      obtain ⟨h6, h7⟩ := an2 h4
      unfold slB at h5
      split at h5
      · rename_i k0 k1 k2 k3 n k5 es
        obtain ⟨nm, bs, mro, ns, qn, hd, sn, sub, ab, col, del⟩ := cd
        dsimp only at h2 h3 em
        have h1 := of_decide_eq_true h1
        have h6 := of_decide_eq_true h6
        have h5 := of_decide_eq_true h5
        have h3 : del = false := by simpa using h3
        subst h1 h2 h3 h5 h6
        subst em
        have hsl : sl = #[k0, k1, k2, k3, some (.builtin "ValueError.__new__"), k5] := by
          rw [← es]
        exact ⟨nm, qn, ns, bs, bm, sn, sub, ab, col, dd, k0, k1, k2, k3, k5, by rw [e, hsl], h7⟩
      · cases h5
    · cases h4
  · cases h
theorem oexB_ok (h : oexB K C = true) : OexC K C := by
  obtain ⟨h1, h⟩ := an2 h
  obtain ⟨h2, h⟩ := an2 h
  obtain ⟨h3, h⟩ := an2 h
  obtain ⟨h4, h5⟩ := an2 h
  exact ⟨clsXB_ok h1, of_decide_eq_true h2, of_decide_eq_true h3, of_decide_eq_true h4, h5⟩
theorem closB_ok {l : List (Str × Addr)} (h : closB K C l = true) : ∃ cc cl cld csl, l = [(("__class__" : Str), cc)] ∧ K.lookup cc = some ⟨cl, cld, .cell (some (.ref C)), csl⟩ := by
  unfold closB at h
  split at h
  · rename_i y cc
    obtain ⟨h1, h2⟩ := an2 h
    unfold cellB at h2
    split at h2
    · rename_i a b c d e
      rw [of_decide_eq_true h1, ← of_decide_eq_true h2]
      exact ⟨cc, _, _, _, rfl, e⟩
    · cases h2
  · cases h
theorem codB_ok {q : Str} {v : Value} (h : codB K file q v = true) : ∃ cda ccl cdd ccs vs t, v = .ref cda ∧ PySem.W.codeIn K (.ref cda) q = true ∧ K.lookup cda = some ⟨ccl, cdd, .fields vs, ccs⟩ ∧ vs[2]? = some (.str file t) := by
  unfold codB at h
  split at h
  · rename_i cda
    obtain ⟨h1, h2⟩ := an2 h
    split at h2
    · rename_i a b vs d e
      unfold fileB at h2
      split at h2
      · rename_i z t ez
        rw [← of_decide_eq_true h2]
        exact ⟨cda, _, _, _, vs, t, rfl, h1, e, ez⟩
      · cases h2
    · cases h2
  · cases h
theorem iexK_ok (h : iexK K file x fs = true) : ∃ cc cda oc od osl fd, IexC K (He.ga K x) (He.ma K (He.ga K x) "__init__") cc cda file ∧ K.lookup (He.ma K (He.ga K x) "__init__") = some ⟨oc, od, .func fd, osl⟩ ∧ fd.closure = [(("__class__" : Str), cc)] ∧ fd.code = .ref cda ∧ fd.defaults = .none ∧
    PySem.W.codeIn K (.ref cda) fd.qualname = true ∧ XfC K (He.ga K x) ∧ ∀ g ∈ fs, PySem.W.findIn K (.ref (He.ga K x)) g = some none := by
  unfold iexK at h
  obtain ⟨h1, h⟩ := an2 h
  obtain ⟨h2, h⟩ := an2 h
  obtain ⟨h3, h⟩ := an2 h
  obtain ⟨h4, h⟩ := an2 h
  obtain ⟨h5, h⟩ := an2 h
  obtain ⟨h6, h⟩ := an2 h
  obtain ⟨h7, h⟩ := an2 h
  obtain ⟨h8, h⟩ := an2 h
  obtain ⟨h9, h10⟩ := an2 h
  have ox := oexB_ok h1
  unfold iniFB at h4
  split at h4
  · rename_i oc od fd osl e
    obtain ⟨g1, g2⟩ := an2 h4
    obtain ⟨g2, g3⟩ := an2 g2
    obtain ⟨cc, cl, cld, csl, c1, c2⟩ := closB_ok g1
    obtain ⟨cda, ccl, cdd, ccs, vs, t, d1, d2, d3, d4⟩ := codB_ok g2
    have hd : fd.defaults = .none := by
      unfold nonB at g3
      split at g3
      · assumption
      · cases g3
    obtain ⟨nm, q, N, bs, bm, sn, sub, ab, col, dd, k0, k1, k2, k3, k5, l1, _⟩ := ox.cls
    have hcl : ∃ cd, PySem.W.clsIn K (He.ga K x) = some cd := ⟨_, by unfold PySem.W.clsIn; rw [l1]⟩
    exact ⟨cc, cda, oc, od, osl, fd, ⟨ox, of_decide_eq_true h2, of_decide_eq_true h3, ⟨cl, cld, csl, c2⟩, ⟨ccl, cdd, ccs, vs, t, d3, d4⟩, hcl, of_decide_eq_true h5, of_decide_eq_true h6, of_decide_eq_true h7, of_decide_eq_true h8⟩, e, c1, d1, hd, d2, xfB_ok h9,
      fun g hg => of_decide_eq_true (List.all_eq_true.mp h10 g hg)⟩
  · cases h4
end
/-! ### the scope, by a test -/
def iniScB (sf : Str) (fs : List Str) (sc : Scope) : Bool := sc.kind == .function && (!sc.isCoroutine && (!sc.isGenerator && (decide (sf :: fs).Nodup && ((sf :: fs).all (fun x => decide (sc.names.lookup x = some .local) && (!(x == ("__debug__" : Str)) && !(x == ("__classdict__" : Str)))) &&
  (sc.names.all (fun y => decide (y.2 ≠ .cell) && (decide (y.2 ≠ .free) || decide (y.1 = "__class__"))) && (decide (sc.names.lookup ("super" : Str) = some .globalImplicit) && decide (sc.names.lookup ("__class__" : Str) = some .free)))))))
theorem iniScB_ok {sf : Str} {fs : List Str} {sc : Scope} (h : iniScB sf fs sc = true) : IniScope sf fs sc := by
  unfold iniScB at h
  obtain ⟨h1, h⟩ := an2 h
  obtain ⟨h2, h⟩ := an2 h
  obtain ⟨h3, h⟩ := an2 h
  obtain ⟨h4, h⟩ := an2 h
  obtain ⟨h5, h⟩ := an2 h
  obtain ⟨h6, h⟩ := an2 h
  obtain ⟨h7, h8⟩ := an2 h
  refine ⟨eq_of_beq h1, by simpa using h2, by simpa using h3, of_decide_eq_true h4, fun x hx => ?_, fun y hy => ?_, of_decide_eq_true h7, of_decide_eq_true h8⟩
  · obtain ⟨a1, a2⟩ := an2 (List.all_eq_true.mp h5 x hx)
    obtain ⟨a2, a3⟩ := an2 a2
    exact ⟨of_decide_eq_true a1, by simpa using a2, by simpa using a3⟩
  · obtain ⟨a1, a2⟩ := an2 (List.all_eq_true.mp h6 y hy)
    refine ⟨of_decide_eq_true a1, fun z => ?_⟩
    rcases (Bool.or_eq_true _ _ ▸ a2 : _ ∨ _) with q | q
    · exact absurd z (of_decide_eq_true q)
    · exact of_decide_eq_true q
def argB (sf : Str) (p : Arguments) : Bool := decide (((p.posonlyargs ++ p.args).head?).map (·.arg) = some sf)
/-- what the text of an __init__ must have -/
def XRow.okB (r : XRow) : Bool := iniScB r.sf r.fs (defScope r.st) && (iniB r.sf r.fs (defBody r.st) && (decide (r.fs.length < 29) && (!r.fs.isEmpty && argB r.sf (defArgs r.st))))
/-- the promise of such an __init__ -/
theorem iex_fn {CT : CXT} {P : Program} {w : World} {K : PySem.W.Frag} {mg : Str → Option Value} {base : Heap} {file : Str} (r : XRow) (h : iexK K file r.name r.fs = true) (he : fnI K r.name = r.val) (hk : r.okB = true) (hfile : ((P.main.file : Str) == file) = true) (htop : (P.main.scope.names.lookup ("super" : Str)).isSome = false) (hsu : mg "super" = none)
    (hb : ∀ (kV doc pm : Value) (an : Option Addr) (cdv ct : Value) (cc : Addr) (us : List Value), us.length = (r.sf :: r.fs).length → bindArgs (PySem.W.ksFn "__init__" r.qual (defArgs r.st) (defBody r.st) (defScope r.st) .none kV doc pm an cdv ct cc) ⟨us, []⟩ = pure ((r.sf :: r.fs).zip us)) :
    ∃ f cc cda fd, IexC K (He.ga K r.name) f cc cda file ∧ FnOk P w K mg base CT 1 f fd (r.sf :: r.fs) (spI (He.ga K r.name) r.fs) ∧ r.fs.length < 29 ∧ Binds K fd (r.sf :: r.fs) [] ∧ XfC K (He.ga K r.name) ∧ ∀ g ∈ r.fs, PySem.W.findIn K (.ref (He.ga K r.name)) g = some none := by
  obtain ⟨cc, cda, oc, od, osl, fd, T, lk, c1, c2, c3, c4, xf, no⟩ := iexK_ok h
  obtain ⟨k1, k⟩ := an2 hk
  obtain ⟨k2, k⟩ := an2 k
  obtain ⟨k3, k⟩ := an2 k
  obtain ⟨k4, k5⟩ := an2 k
  unfold fnI at he
  rw [lk] at he
  obtain ⟨n1, n2, n3, n4, n5, n6, n7, n8, n9, n10, n11, n12, n13, n14, n15⟩ := fd
  dsimp only at he c1 c2 c3 c4
  subst c1 c2 c3
  unfold XRow.val at he
  simp only [Option.some.injEq, Prod.mk.injEq] at he
  obtain ⟨e1, e2, e3, e4, e5, e6, e7⟩ := he
  subst e1 e2 e3 e4 e5 e6 e7
  refine ⟨_, cc, cda, PySem.W.ksFn "__init__" r.qual (defArgs r.st) (defBody r.st) (defScope r.st) .none n9 n10 n11 n12 (.ref cda) n14 cc, T, ?_, of_decide_eq_true k3, .all fun us hl => hb _ _ _ _ _ _ _ us hl, xf, no⟩
  cases hf : r.fs with
  | nil => rw [hf] at k4; cases k4
  | cons g rs =>
    have hp := of_decide_eq_true k5
    have few := of_decide_eq_true k3
    have sc := iniScB_ok k1
    rw [hf] at few sc k2 no
    exact fn_init (k := 0) T lk c4 sc k2 few hp hfile htop hsu no
/-! ### tuples of constants -/
def cstV : D → Value → Bool
  | .c (.str z), .str y _ => decide (y = z)
  | .c (.int i), .int j _ => decide (j = i)
  | _, _ => false
def cstVs : List D → List Value → Bool
  | [], [] => true
  | d :: ds, v :: vs => cstV d v && cstVs ds vs
  | _, _ => false
def tupVB (K : PySem.W.Frag) (ds : List D) : Option Obj → Bool
  | some ⟨.type "tuple", _, .seq vs _, _⟩ => decide (vs.size ≤ 1000) && cstVs ds vs.toList
  | _ => false
theorem cst_rp {fa : Nat → Option Addr} {K : PySem.W.Frag} {d : D} {v : Value} (h : cstV d v = true) : ∃ w : V, RelV w v ∧ ∀ m H, Rp K fa m H d w := by
  unfold cstV at h
  split at h
  · rename_i z y t
    rw [of_decide_eq_true h]
    exact ⟨.str z, ⟨t, rfl⟩, fun m H => .c (.str z)⟩
  · rename_i i j t
    rw [of_decide_eq_true h]
    exact ⟨.int i, ⟨t, rfl⟩, fun m H => .c (.int i)⟩
  · cases h
theorem csts_rp {fa : Nat → Option Addr} {K : PySem.W.Frag} : ∀ {ds : List D} {vs : List Value}, cstVs ds vs = true → ∃ ws : List V, Vals ws vs ∧ ∀ m H, RpL K fa m H ds ws
  | [], [], _ => ⟨[], .nil, fun _ _ => .nil⟩
  | d :: ds, v :: vs, h => by
    obtain ⟨h1, h2⟩ := an2 (show (cstV d v && cstVs ds vs) = true from h)
    obtain ⟨w, r, p⟩ := cst_rp (fa := fa) (K := K) h1
    obtain ⟨ws, rs, ps⟩ := csts_rp (fa := fa) (K := K) h2
    exact ⟨w :: ws, .cons r rs, fun m H => .cons (p m H) (ps m H)⟩
  | [], _ :: _, h => by cases h
  | _ :: _, [], h => by cases h
theorem tupVB_rp {fa : Nat → Option Addr} {K : PySem.W.Frag} {ds : List D} {a : Addr} (h : tupVB K ds (K.lookup a) = true) : ∀ m H, Rp K fa m H (.tup ds) (.ref a) := by
  unfold tupVB at h
  split at h
  · rename_i dd vs n sl e
    obtain ⟨h1, h2⟩ := an2 h
    have h1 := of_decide_eq_true h1
    obtain ⟨ws, rs, ps⟩ := csts_rp (fa := fa) (K := K) h2
    have len : ws.length ≤ sizeLine := by
      have z : ws.length = vs.toList.length := rs.length
      have z2 : vs.toList.length = vs.size := by simp
      rw [sizeLine_eq]
      omega
    exact fun m H => .tup (.inr ⟨_, vs, n, e, rfl, rfl, by rw [sizeLine_eq]; omega, rs⟩) len (ps m H)
  · cases h
def tupK (K : PySem.W.Frag) (q : Str × List D) : Bool := tupVB K q.2 (K.lookup (He.ga K q.1))
/-! ### the Hook -/
def asX (g : Addr → Option Obj) : Nat → List Addr
  | 0 => [mainGlobals, cStatics]
  | n + 1 => He.growD g (asX g n)
abbrev AlX : Type := (Bool × List He.FnW) × List FnI
def obsX (fa : List He.Fa) (fn : List He.DefD) (file : Str) (xs : List XRow) (ts : List (Str × List D)) (K : PySem.W.Frag) : AlX := (((fa.all fun f => f.ok K) && (fn.all fun d => d.ok K) && ((xs.all fun r => iexK K file r.name r.fs) && ts.all (tupK K)), fn.map fun d => He.fnW K d.at_), xs.map fun r => fnI K r.name)
def valX (fn : List He.DefD) (xs : List XRow) : AlX := ((true, fn.map He.DefD.val), xs.map XRow.val)
def SaysX (fa : List He.Fa) (fn : List He.DefD) (file : Str) (xs : List XRow) (ts : List (Str × List D)) (K : PySem.W.Frag) : Prop := obsX fa fn file xs ts K = valX fn xs
def obsXG (n : Nat) (fa : List He.Fa) (fn : List He.DefD) (file : Str) (xs : List XRow) (ts : List (Str × List D)) (g : Addr → Option Obj) : AlX := obsX fa fn file xs ts (He.frG g (asX g n))
def hookX (n : Nat) (fa : List He.Fa) (fn : List He.DefD) (file : Str) (xs : List XRow) (ts : List (Str × List D)) : PySem.W.Hook where
  α := AlX
  obs := fun s => obsXG n fa fn file xs ts s.heap.get?
  val := fun _ => valX fn xs
  says := fun _ h => ∃ K : PySem.W.Frag, K.In h ∧ SaysX fa fn file xs ts K
  of := fun _ _ e => ⟨_, He.frG_in, e⟩
  keeps := fun _ _ _ ⟨K, hK, c⟩ k => ⟨K, PySem.W.Frag.In.keeps hK k, c⟩
theorem obsXG_eq {n : Nat} {fa : List He.Fa} {fn : List He.DefD} {file : Str} {xs : List XRow} {ts : List (Str × List D)} {g : Addr → Option Obj} {s : Shared} (h : ∀ a, g a = s.heap.get? a) : obsXG n fa fn file xs ts g = (hookX n fa fn file xs ts).obs s := by
  have e : g = s.heap.get? := funext h
  subst e
  rfl
section
variable {fa : List He.Fa} {fn : List He.DefD} {file : Str} {xs : List XRow} {ts : List (Str × List D)} {K : PySem.W.Frag}
theorem SaysX.d (c : SaysX fa fn file xs ts K) : He.SaysD fa fn K := by
  unfold SaysX obsX valX at c
  simp only [Prod.mk.injEq] at c
  obtain ⟨⟨c1, c2⟩, _⟩ := c
  obtain ⟨c1, _⟩ := an2 c1
  unfold He.SaysD He.obsD He.valD
  rw [c1, c2]
theorem SaysX.t (c : SaysX fa fn file xs ts K) {q : Str × List D} (h : q ∈ ts) : tupK K q = true := by
  unfold SaysX obsX valX at c
  simp only [Prod.mk.injEq] at c
  obtain ⟨⟨c1, _⟩, _⟩ := c
  obtain ⟨_, c2⟩ := an2 c1
  obtain ⟨_, c2⟩ := an2 c2
  exact List.all_eq_true.mp c2 q h
theorem SaysX.x (c : SaysX fa fn file xs ts K) {r : XRow} (h : r ∈ xs) : iexK K file r.name r.fs = true ∧ fnI K r.name = r.val := by
  unfold SaysX obsX valX at c
  simp only [Prod.mk.injEq] at c
  obtain ⟨⟨c1, _⟩, c3⟩ := c
  obtain ⟨_, c2⟩ := an2 c1
  obtain ⟨c2, _⟩ := an2 c2
  refine ⟨List.all_eq_true.mp c2 r h, ?_⟩
  obtain ⟨i, hi⟩ := List.mem_iff_getElem?.mp h
  have e : (xs.map fun r => fnI K r.name)[i]? = (xs.map XRow.val)[i]? := by rw [c3]
  rw [List.getElem?_map, List.getElem?_map, hi] at e
  exact Option.some.inj e
end
end Rf

set_option Elab.async false
set_option maxRecDepth 100000
set_option maxHeartbeats 1000000
/-! Rf, part S: the head's facts, a law at once. -/
namespace Rf
open PySem PySem.Spec PyProof.Rows L2

def okR (Tb : Tabs) (r : Row) : Bool :=
  (defScope r.st).kind == .function && (!(defScope r.st).isCoroutine && (!(defScope r.st).isGenerator && (decide r.N.Nodup && (decide (r.N.take r.ps.length = r.ps) &&
    (r.ps.all (fun x => decide ((defScope r.st).names.lookup x = some .local) || decide ((defScope r.st).names.lookup x = some .cell)) && ((defScope r.st).names.all (fun y => decide (y.2 ≠ .free)) && cSs Tb r.N (defScope r.st) r.body (defBody r.st)))))))
theorem okR_sc {Tb : Tabs} {r : Row} (h : okR Tb r = true) : FnScope r.N r.ps (defScope r.st) ∧ cSs Tb r.N (defScope r.st) r.body (defBody r.st) = true := by
  obtain ⟨h1, h⟩ := bA h
  obtain ⟨h2, h⟩ := bA h
  obtain ⟨h3, h⟩ := bA h
  obtain ⟨h4, h⟩ := bA h
  obtain ⟨h5, h⟩ := bA h
  obtain ⟨h6, h⟩ := bA h
  obtain ⟨h7, h8⟩ := bA h
  refine ⟨⟨eq_of_beq h1, by simpa using h2, by simpa using h3, of_decide_eq_true h4, of_decide_eq_true h5, fun x hx => ?_, fun y hy => ?_⟩, h8⟩
  · have := List.all_eq_true.mp h6 x hx
    simpa using this
  · have := List.all_eq_true.mp h7 y hy
    simpa using this
def factG (q : Str × D) : He.Fa := match q.2 with
  | .c (.int i) => .int q.1 i
  | .c (.str z) => .str q.1 z
  | .tup _ => .glo q.1
  | _ => .int q.1 0
def isG : D → Bool
  | .c (.int _) => true
  | .c (.str _) => true
  | .tup _ => true
  | _ => false
/-- a law's table: with the relation of its exceptions -/
structure Law where
  Tb : Tabs
  sub : Nat → Nat → Bool
  /-- the exceptions with fields: behind the bare ones -/
  xs : List XRow := []
  file : Str := ""
/-- each exception with fields has its row; nobody catches with fields what has others -/
def Law.xOk (l : Law) : Bool := decide (l.Tb.flds.length ≤ l.Tb.excs.length) && (List.range l.Tb.excs.length).all (fun i => (((l.Tb.flds[i]?).getD []).isEmpty || l.xs.any fun r => decide (l.Tb.excs[i]? = some r.name) && decide (l.Tb.flds[i]? = some r.fs)) && (decide ((l.Tb.flds[i]?).getD []).Nodup &&
  (List.range l.Tb.excs.length).all fun j => !l.sub i j || (((l.Tb.flds[j]?).getD []).isEmpty || decide ((l.Tb.flds[i]?).getD [] = (l.Tb.flds[j]?).getD []))))
def Law.pairs (l : Law) : List He.Fa := (List.range l.Tb.excs.length).flatMap fun i => (List.range l.Tb.excs.length).map fun j => .exm (l.Tb.excs.getD i "") (l.Tb.excs.getD j "") (l.sub i j)
def Law.fa (l : Law) : List He.Fa := l.Tb.rows.map (fun r => .glo r.name) ++ (l.Tb.free.map .free ++ (l.Tb.glbs.map factG ++ (l.Tb.excs.map .glo ++ ((l.Tb.excs.take l.Tb.bare).map .exc ++ l.pairs))))
def dfn (r : Row) : He.DefD := ⟨(r.name, none), r.name, r.name, defArgs r.st, defBody r.st, defScope r.st, [], []⟩
def Law.fn (l : Law) : List He.DefD := l.Tb.rows.map dfn
def Law.G (l : Law) (i : Nat) : Option D := (l.Tb.glbs[i]?).map (·.2)
def tupG (q : Str × D) : Option (Str × List D) := match q.2 with
  | .tup ds => some (q.1, ds)
  | _ => none
def Law.ts (l : Law) : List (Str × List D) := l.Tb.glbs.filterMap tupG
def Law.call (l : Law) (k : Nat) : Cl := Rf.call l.Tb.defs l.G l.sub k
def Law.L (l : Law) (K : PySem.W.Frag) (s : Option Addr) : Pl where
  K := K
  fa := fun f => if f = SCR then s else (l.Tb.rows[f]?).map fun r => He.ga K r.name
  ca := fun i => (l.Tb.excs[i]?).map fun x => .ref (He.ga K x)
  fl := flR l.Tb
section
variable {l : Law} {K : PySem.W.Frag} {h : Heap} {mg : Str → Option Value}
theorem says_mem (c : He.SaysD l.fa l.fn K) {f : He.Fa} (hf : f ∈ l.fa) : f.ok K = true := by
  obtain ⟨i, hi⟩ := List.mem_iff_getElem?.mp hf
  exact c.fact i hi
theorem law_mod (kin : K.In h) (ns : h.Ns mainGlobals mg) (cx : SaysX l.fa l.fn l.file l.xs l.ts K) (hg : l.Tb.glbs.all (fun q => isG q.2) = true) {s : Option Addr} (X : Cx) (hX : X.mg = mg) : ModOk X (l.L K s) l.Tb l.G := by
  have c := cx.d
  refine ⟨fun x hx => ?_, fun i x d e => ?_⟩
  · rw [hX]
    exact He.free_ok kin ns (says_mem c (List.mem_append_right _ (List.mem_append_left _ (List.mem_map_of_mem hx))))
  · have m : (x, d) ∈ l.Tb.glbs := List.mem_of_getElem? e
    have f := says_mem (l := l) c (List.mem_append_right _ (List.mem_append_right _ (List.mem_append_left _ (List.mem_map_of_mem (f := factG) m))))
    have g := List.all_eq_true.mp hg _ m
    refine ⟨by unfold Law.G; rw [e]; rfl, ?_⟩
    rw [hX]
    cases d with
    | c k =>
      cases k with
      | int i =>
        obtain ⟨t, q⟩ := He.int_ok kin ns (x := x) (i := i) f
        exact ⟨.int i, _, q, ⟨t, rfl⟩, fun m H => .c (.int i)⟩
      | str z =>
        obtain ⟨t, q⟩ := He.str_ok kin ns (x := x) (z := z) f
        exact ⟨.str z, _, q, ⟨t, rfl⟩, fun m H => .c (.str z)⟩
      | _ => cases g
    | tup ds =>
      have tk := cx.t (q := (x, ds)) (List.mem_filterMap.mpr ⟨(x, .tup ds), m, rfl⟩)
      exact ⟨.ref (He.ga K x), _, He.glo_ok kin ns f, rfl, tupVB_rp tk⟩
    | _ => cases g
theorem law_ex (kin : K.In h) (ns : h.Ns mainGlobals mg) (cx : SaysX l.fa l.fn l.file l.xs l.ts K) (hx : l.xOk = true) (hxr : l.xs.all XRow.okB = true) {s : Option Addr} {P : Program} (hxb : ∀ r ∈ l.xs, ∀ (kV doc pm : Value) (an : Option Addr) (cdv ct : Value) (cc : Addr) (us : List Value), us.length = (r.sf :: r.fs).length → bindArgs (PySem.W.ksFn "__init__" r.qual (defArgs r.st) (defBody r.st) (defScope r.st) .none kV doc pm an cdv ct cc) ⟨us, []⟩ = pure ((r.sf :: r.fs).zip us))
    (hfile : l.xs ≠ [] → ((P.main.file : Str) == l.file) = true ∧ (P.main.scope.names.lookup ("super" : Str)).isSome = false ∧ ("super" : Str) ∈ l.Tb.free) (X : Cx) (hP : X.prog = P) (hK : X.K = (l.L K s).K) (hX : X.mg = mg) (hlow : ∀ i j, l.sub i j = true → i < l.Tb.excs.length ∧ j < l.Tb.excs.length ∨ i = j) : ExOk X (l.L K s) l.Tb l.sub := by
  have c := cx.d
  have hK : X.K = K := hK
  have low : ∀ (i : Nat) (cv : Value), (l.L K s).ca i = some cv → i < l.Tb.excs.length ∧ cv = .ref (He.ga K (l.Tb.excs.getD i "")) := fun i cv e => by
    obtain ⟨x, e1, e2⟩ := Option.map_eq_some_iff.mp (show (l.Tb.excs[i]?).map (fun x => Value.ref (He.ga K x)) = some cv from e)
    have hi := (List.getElem?_eq_some_iff.mp e1).1
    refine ⟨hi, ?_⟩
    rw [List.getD_eq_getElem?_getD, e1, ← e2]
    rfl
  have row : ∀ (i : Nat) (x : Str), l.Tb.excs[i]? = some x → ((l.Tb.flds[i]?).getD []) ≠ [] → ∃ r ∈ l.xs, r.name = x ∧ (l.Tb.flds[i]?).getD [] = r.fs := fun i x e hne => by
    have hi := (List.getElem?_eq_some_iff.mp e).1
    obtain ⟨h1, _⟩ := bA (List.all_eq_true.mp (bA hx).2 i (List.mem_range.mpr hi))
    rcases (Bool.or_eq_true _ _ ▸ h1 : _ ∨ _) with h1 | h1
    · exact absurd (v_emp h1) hne
    · obtain ⟨r, hr, h2⟩ := List.any_eq_true.mp h1
      obtain ⟨h3, h4⟩ := bA h2
      have h3 := of_decide_eq_true h3
      have h4 := of_decide_eq_true h4
      rw [e] at h3
      exact ⟨r, hr, (Option.some.inj h3).symm, by rw [h4]; rfl⟩
  have got : ∀ r ∈ l.xs, ∃ f cc cda fd, IexC K (He.ga K r.name) f cc cda l.file ∧ FnOk X.prog X.w K X.mg X.base (L2N.CX X.prog X.w) 1 f fd (r.sf :: r.fs) (spI (He.ga K r.name) r.fs) ∧ r.fs.length < 29 ∧ L2.Binds K fd (r.sf :: r.fs) [] ∧ XfC K (He.ga K r.name) ∧ ∀ g ∈ r.fs, PySem.W.findIn K (.ref (He.ga K r.name)) g = some none := fun r hr => by
    obtain ⟨z1, z2⟩ := cx.x hr
    obtain ⟨f1, f2, f3⟩ := hfile (fun z => by rw [z] at hr; cases hr)
    subst hP
    exact iex_fn r z1 z2 (List.all_eq_true.mp hxr r hr) f1 f2 (by rw [hX]; exact He.free_ok kin ns (says_mem c (List.mem_append_right _ (List.mem_append_left _ (List.mem_map_of_mem f3))))) (hxb r hr)
  refine ⟨fun i x e => ?_, fun i => rfl, fun i j hs hne => ?_, ⟨fun j cv f e hf => ?_, fun j => ?_⟩, fun i j cv dv e1 e2 => ?_, fun i x n e hne hb hn => ?_, fun i x e hb => ?_⟩
  · refine ⟨.ref (He.ga K x), by show (l.Tb.excs[i]?).map _ = _; rw [e]; rfl, ?_⟩
    rw [hX]
    exact He.glo_ok kin ns (says_mem c (List.mem_append_right _ (List.mem_append_right _ (List.mem_append_right _ (List.mem_append_left _ (List.mem_map_of_mem (List.mem_of_getElem? e)))))))
  · show flR l.Tb i = flR l.Tb j
    rcases hlow i j hs with ⟨l1, l2⟩ | rfl
    · obtain ⟨_, h2⟩ := bA (List.all_eq_true.mp (bA hx).2 i (List.mem_range.mpr l1))
      obtain ⟨_, h3⟩ := bA h2
      have h4 := List.all_eq_true.mp h3 j (List.mem_range.mpr l2)
      rw [hs] at h4
      have hne : flR l.Tb j ≠ [] := hne
      unfold flR at hne ⊢
      rcases (Bool.or_eq_true _ _ ▸ (show (((l.Tb.flds[j]?).getD []).isEmpty || decide ((l.Tb.flds[i]?).getD [] = (l.Tb.flds[j]?).getD [])) = true from h4) : _ ∨ _) with h4 | h4
      · exact absurd (by rw [v_emp h4]; rfl) hne
      · rw [of_decide_eq_true h4]
    · rfl
  · obtain ⟨hj, rfl⟩ := low j cv e
    have hf : f ∈ flR l.Tb j := hf
    unfold flR at hf
    rw [List.mem_reverse] at hf
    have ej : l.Tb.excs[j]? = some (l.Tb.excs.getD j "") := by rw [List.getD_eq_getElem?_getD, List.getElem?_eq_getElem hj]; rfl
    obtain ⟨r, hr, h1, h2⟩ := row j _ ej (fun z => by rw [z] at hf; cases hf)
    obtain ⟨_, _, _, _, _, _, _, _, T, no⟩ := got r hr
    rw [hK, ← h1]
    exact ⟨_, rfl, T, no f (by rw [← h2]; exact hf)⟩
  · show (flR l.Tb j).Nodup
    unfold flR
    refine List.pairwise_reverse.mpr (List.Pairwise.imp (fun h => Ne.symm h) ?_)
    show ((l.Tb.flds[j]?).getD []).Nodup
    by_cases hj : j < l.Tb.excs.length
    · obtain ⟨_, h2⟩ := bA (List.all_eq_true.mp (bA hx).2 j (List.mem_range.mpr hj))
      exact of_decide_eq_true (bA h2).1
    · have hl : l.Tb.flds[j]? = none := List.getElem?_eq_none (by have := of_decide_eq_true (bA hx).1; omega)
      rw [hl]
      exact List.nodup_nil
  · obtain ⟨h1, rfl⟩ := low i cv e1
    obtain ⟨h2, rfl⟩ := low j dv e2
    rw [hK]
    refine He.exm_ok (says_mem c ?_)
    refine List.mem_append_right _ (List.mem_append_right _ (List.mem_append_right _ (List.mem_append_right _ (List.mem_append_right _ ?_))))
    exact List.mem_flatMap.mpr ⟨i, List.mem_range.mpr h1, List.mem_map.mpr ⟨j, List.mem_range.mpr h2, rfl⟩⟩
  · subst hn
    obtain ⟨r, hr, h1, h2⟩ := row i x e hne
    obtain ⟨f, cc, cda, fd, T, F1, few, bd, _, _⟩ := got r hr
    subst h1
    rw [h2, hK]
    exact ⟨_, f, cc, cda, _, fd, _, by show (l.Tb.excs[i]?).map _ = _; rw [e]; rfl, T, F1, few, bd⟩
  · have mm : x ∈ l.Tb.excs.take l.Tb.bare := by
      refine List.mem_iff_getElem?.mpr ⟨i, ?_⟩
      rw [List.getElem?_take_of_lt hb]
      exact e
    obtain ⟨q1, q2, q3, q4⟩ := He.exc_ok (says_mem (l := l) c (List.mem_append_right _ (List.mem_append_right _ (List.mem_append_right _ (List.mem_append_right _ (List.mem_append_left _ (List.mem_map_of_mem (f := He.Fa.exc) mm)))))))
    exact ⟨He.ga K x, _, _, _, _, by show (l.Tb.excs[i]?).map _ = _; rw [e]; rfl, PySem.F.excBase_ValueError, by rw [hK]; exact q1, by rw [hK]; exact q2, by rw [hK]; exact q3, by rw [hK]; exact q4⟩
/-- what a law's text must have for its exceptions -/
structure XCond (l : Law) (P : Program) : Prop where
  ok : l.xOk = true
  rows : l.xs.all XRow.okB = true
  bind : ∀ r ∈ l.xs, ∀ (kV doc pm : Value) (an : Option Addr) (cdv ct : Value) (cc : Addr) (us : List Value), us.length = (r.sf :: r.fs).length → bindArgs (PySem.W.ksFn "__init__" r.qual (defArgs r.st) (defBody r.st) (defScope r.st) .none kV doc pm an cdv ct cc) ⟨us, []⟩ = pure ((r.sf :: r.fs).zip us)
  prog : l.xs ≠ [] → ((P.main.file : Str) == l.file) = true ∧ (P.main.scope.names.lookup ("super" : Str)).isSome = false ∧ ("super" : Str) ∈ l.Tb.free
  low : ∀ i j, l.sub i j = true → i < l.Tb.excs.length ∧ j < l.Tb.excs.length ∨ i = j
/-- every def keeps what the evaluator says -/
theorem law_fns {P : Program} {w : World} (kin : K.In h) (ns : h.Ns mainGlobals mg) (cx : SaysX l.fa l.fn l.file l.xs l.ts K) (xc : XCond l P) (hg : l.Tb.glbs.all (fun q => isG q.2) = true) (hr : l.Tb.rows.all (okR l.Tb) = true)
    (hb : ∀ (i : Nat) (r : Row), l.Tb.rows[i]? = some r → ∀ (kV doc pm : Value) (an : Option Addr) (cdv ct : Value) (us : List Value), us.length = r.ps.length → bindArgs (PySem.W.fnOf r.name r.name (defArgs r.st) (defBody r.st) (defScope r.st) .none kV doc pm an cdv ct) ⟨us, []⟩ = pure (r.ps.zip us))
    (few : l.Tb.rows.length ≤ SCR) (i : Nat) (r : Row) (hi : l.Tb.rows[i]? = some r) :
    ∃ fd, FunD K r.name r.name (defArgs r.st) (defBody r.st) (defScope r.st) [] [] (He.ga K r.name) fd ∧ ∀ (base : Heap) (s : Option Addr) (k : Nat), FnG P w K mg base (k + 2) (He.ga K r.name) fd r.ps (spF (l.L K s) r.ps.length (l.call k i)) := by
  have c := cx.d
  have hfd : ∀ (i : Nat), ∃ fd, ∀ r : Row, l.Tb.rows[i]? = some r → FunD K r.name r.name (defArgs r.st) (defBody r.st) (defScope r.st) [] [] (He.ga K r.name) fd := fun i => by
    cases e : l.Tb.rows[i]? with
    | none => exact ⟨Classical.choice ⟨PySem.W.fnOf "" "" ⟨[], [], none, [], [], none, []⟩ [] ⟨.function, [], false, false, []⟩ .none .none .none .none none .none .none⟩, fun r z => nomatch z⟩
    | some r =>
      obtain ⟨fd, F⟩ := c.def_ i (d := dfn r) (by unfold Law.fn; rw [List.getElem?_map, e]; rfl)
      exact ⟨fd, fun r' z => by cases z; exact F⟩
  have hfa : ∀ (s : Option Addr) (i : Nat) (r : Row), l.Tb.rows[i]? = some r → (l.L K s).fa i = some (He.ga K r.name) := fun s i r e => by
    have lt := (List.getElem?_eq_some_iff.mp e).1
    show (if i = SCR then s else (l.Tb.rows[i]?).map fun r => He.ga K r.name) = _
    rw [if_neg (by omega), e]
    rfl
  obtain ⟨fdOf, hF⟩ : ∃ fdOf : Nat → FuncData, ∀ i (r : Row), l.Tb.rows[i]? = some r → FunD K r.name r.name (defArgs r.st) (defBody r.st) (defScope r.st) [] [] (He.ga K r.name) (fdOf i) := ⟨fun i => Classical.choose (hfd i), fun i => Classical.choose_spec (hfd i)⟩
  refine ⟨fdOf i, hF i r hi, fun base s k => ?_⟩
  have key := fns (P := P) (w := w) (base := base) (mg := mg) (L := l.L K s) (Tb := l.Tb) (G := l.G) (sub := l.sub) fdOf
    (fun i r e => ⟨_, hfa s i r e, He.glo_ok kin ns (says_mem c (List.mem_append_left _ (List.mem_map_of_mem (f := fun r : Row => He.Fa.glo r.name) (List.mem_of_getElem? e)))), hF i r e⟩)
    (fun i r e => by
      obtain ⟨q1, q2⟩ := okR_sc (List.all_eq_true.mp hr r (List.mem_of_getElem? e))
      exact ⟨q1, q2, hb i r e⟩)
    (fun X hX => law_mod kin ns cx hg X hX) (fun X hP hK hX => law_ex kin ns cx xc.ok xc.rows xc.bind xc.prog X hP hK hX xc.low)
    (fun f a e lt => by
      have e : (if f = SCR then s else (l.Tb.rows[f]?).map fun r => He.ga K r.name) = some a := e
      rw [if_neg (by omega)] at e
      obtain ⟨r, e1, _⟩ := Option.map_eq_some_iff.mp e
      exact ⟨r, e1⟩) few k i r hi
  obtain ⟨a, e1, e2, e3, e4, e5, e6⟩ := key
  rw [hfa s i r hi] at e1
  cases e1
  exact e5
end
/-- the law's walk -/
theorem walk_law {o : PySem.W.OpenLaw} {n k : Nat} {q : Program} {loose : List Str} {XP : (Str → Option Value) → Heap → Prop} {d : DefRec} {x : Str} (l : Law) (depth : Nat) (i : Nat) (r : Row) (hi : l.Tb.rows[i]? = some r) (hps : r.ps = [x])
    (hn : o.most = some n) (hn2 : n ≤ sizeLine) (hdf : d.params.defaults = []) (hr : Room (k + 2) callerA) (hname : d.name = r.name)
    (hg : l.Tb.glbs.all (fun q => isG q.2) = true) (hrows : l.Tb.rows.all (okR l.Tb) = true)
    (hb : ∀ (i : Nat) (r : Row), l.Tb.rows[i]? = some r → ∀ (kV doc pm : Value) (an : Option Addr) (cdv ct : Value) (us : List Value), us.length = r.ps.length → bindArgs (PySem.W.fnOf r.name r.name (defArgs r.st) (defBody r.st) (defScope r.st) .none kV doc pm an cdv ct) ⟨us, []⟩ = pure (r.ps.zip us))
    (few : l.Tb.rows.length ≤ SCR) (xc : XCond l o.prog)
    (law : ∀ ns : List Int, ns.length ≤ n → ∃ S', l.call k i [.fz (ns.map D.int)] [] = .ok (.bl true) S') :
    PySem.W.WalkO q loose XP ((hookX depth l.fa l.fn l.file l.xs l.ts).says) o.row.toRowW d [] (fun f vs => PySem.call f vs) := by
  refine walk_rf (k := k + 2) (x := x) l.L (fun _ _ => rfl) (fun _ _ => rfl) hn hn2 hdf hr (fun w mg fa h Y ns hm => ?_) law
  obtain ⟨K, kin, cx⟩ := Y
  have c := cx.d
  obtain ⟨fd, F, hG⟩ := law_fns (l := l) (P := o.prog) (w := w) kin ns cx xc hg hrows hb few i r hi
  have e := He.glo_ok kin ns (says_mem (l := l) c (List.mem_append_left _ (List.mem_map_of_mem (f := fun r : Row => He.Fa.glo r.name) (List.mem_of_getElem? hi))))
  rw [hname, e] at hm
  cases hm
  refine ⟨K, fd, kin, fun s u => ?_, fun base s _ _ => ?_⟩
  · have z := FunD.bindsA F (hb i r hi) s [u] (by rw [hps]; rfl)
    rw [hps] at z
    exact z
  · have z := hG base s k
    rw [hps] at z
    exact z
end Rf

set_option Elab.async false
set_option maxRecDepth 100000
set_option maxHeartbeats 1000000
/-! Rf, part T: plain facts of the evaluator. -/
namespace Rf
open PySem

mutual
/-- names nothing of the store -/
def puD : D → Bool
  | .ref _ => false
  | .tup xs => puDs xs
  | .lst xs => puDs xs
  | .fz xs => puDs xs
  | .ptup xs => puDs xs
  | _ => true
def puDs : List D → Bool
  | [] => true
  | x :: xs => puD x && puDs xs
end
@[simp] theorem puD_c (k : Cst) : puD (.c k) = true := by simp only [puD]
@[simp] theorem puD_fn (f : Nat) : puD (.fn f) = true := by simp only [puD]
@[simp] theorem puD_ty (n : String) : puD (.ty n) = true := by simp only [puD]
@[simp] theorem puD_tup (xs : List D) : puD (.tup xs) = puDs xs := by simp only [puD]
@[simp] theorem puD_lst (xs : List D) : puD (.lst xs) = puDs xs := by simp only [puD]
@[simp] theorem puD_ptup (xs : List D) : puD (.ptup xs) = puDs xs := by simp only [puD]
@[simp] theorem puD_edc : puD .edc = true := by simp only [puD]
@[simp] theorem puDs_nil : puDs [] = true := by simp only [puDs]
@[simp] theorem puDs_cons (x : D) (xs : List D) : puDs (x :: xs) = (puD x && puDs xs) := by simp only [puDs]
def puO : Ob → Bool
  | .lst xs => puDs xs
  | .dct kvs => puDs (kvs.map (·.2))
mutual
theorem low_pu {n : Nat} : ∀ {d : D}, puD d = true → lowD n d = true
  | .c _, _ => rfl
  | .tup xs, h => by simp only [puD] at h; simp only [lowD]; exact low_pus h
  | .lst xs, h => by simp only [puD] at h; simp only [lowD]; exact low_pus h
  | .fz xs, h => by simp only [puD] at h; simp only [lowD]; exact low_pus h
  | .ptup xs, h => by simp only [puD] at h; simp only [lowD]; exact low_pus h
  | .fn _, _ => rfl
  | .ty _, _ => rfl
  | .edc, _ => rfl
theorem low_pus {n : Nat} : ∀ {ds : List D}, puDs ds = true → lowDs n ds = true
  | [], _ => rfl
  | d :: ds, h => by
    simp only [puDs, Bool.and_eq_true] at h
    simp only [lowDs, Bool.and_eq_true]
    exact ⟨low_pu h.1, low_pus h.2⟩
end
theorem low_puO {n : Nat} {o : Ob} (h : puO o = true) : lowOb n o = true := by
  cases o with
  | lst xs => exact low_pus h
  | dct kvs => exact low_pus h
theorem puDs_all : ∀ {ds : List D}, puDs ds = ds.all puD
  | [] => rfl
  | d :: ds => by simp only [puDs, List.all_cons, puDs_all]
/-- a store whose objects name nothing -/
def Pu (S : Store) : Prop := S.all puO = true
theorem Pu.take {S : Store} (h : Pu S) (n : Nat) : (S.take n).all (lowOb n) = true := by
  rw [List.all_eq_true]
  intro o ho
  exact low_puO (List.all_eq_true.mp h o (List.mem_of_mem_take ho))
theorem Pu.taken {S : Store} (h : Pu S) (n : Nat) : Pu (S.take n) := by
  unfold Pu
  rw [List.all_eq_true]
  intro o ho
  exact List.all_eq_true.mp h o (List.mem_of_mem_take ho)
theorem unref_pu {n : Nat} {S : Store} {v : D} (h : puD v = true) : unref n S v = v := by
  cases v <;> first | rfl | (simp [puD] at h)
theorem trim_ok {n : Nat} {v : D} {S : Store} (hv : puD v = true) (hS : Pu S) : trim n (.ok v S) = .ok v (S.take n) := by
  show fin n v S = _
  unfold fin
  rw [unref_pu hv, low_pu hv, hS.take n]
  rfl
theorem trim_same {v : D} {S : Store} {n : Nat} (hv : puD v = true) (hS : Pu S) (hn : S.length = n) : trim n (.ok v S) = .ok v S := by
  rw [trim_ok hv hS, ← hn, List.take_length]
theorem trim_self {S : Store} (hS : Pu S) {v : D} (hv : puD v = true) : trim S.length (.ok v S) = .ok v S := trim_same hv hS rfl
theorem trim_ex {n : Nat} {e : Ex} {S : Store} (hv : puDs e.args = true) (hS : Pu S) : trim n (.ex e S) = .ex e (S.take n) := by
  show finX n e S = _
  unfold finX
  rw [low_pus hv, hS.take n]
  rfl
theorem Pu.set {S : Store} (h : Pu S) {n : Nat} {o : Ob} (ho : puO o = true) : Pu (S.set n o) := by
  unfold Pu
  rw [List.all_eq_true]
  intro x hx
  rcases List.mem_or_eq_of_mem_set hx with hx | rfl
  · exact List.all_eq_true.mp h x hx
  · exact ho
theorem Pu.push {S : Store} (h : Pu S) {o : Ob} (ho : puO o = true) : Pu (S ++ [o]) := by
  unfold Pu at *
  rw [List.all_append, h]
  simp [ho]
/-! ### turns -/
theorem turns_map {f : D → Store → Res (Option D)} {g : D → D} {S : Store} : ∀ {xs : List D}, (∀ x ∈ xs, f x S = .ok (some (g x)) S) → turns f xs S = .ok (xs.map g) S
  | [], _ => rfl
  | x :: xs, h => by
    simp only [turns, h x (List.mem_cons_self ..), calm_ok, bind_ok]
    rw [turns_map fun y hy => h y (List.mem_cons_of_mem _ hy)]
    rfl
theorem turns_filter {f : D → Store → Res (Option D)} {p : D → Bool} {g : D → D} {S : Store} : ∀ {xs : List D}, (∀ x ∈ xs, f x S = .ok (if p x then some (g x) else none) S) → turns f xs S = .ok ((xs.filter p).map g) S
  | [], _ => rfl
  | x :: xs, h => by
    simp only [turns, h x (List.mem_cons_self ..), calm_ok, bind_ok]
    rw [turns_filter fun y hy => h y (List.mem_cons_of_mem _ hy)]
    cases hp : p x <;> simp [hp]
theorem turns_inv {f : D → Store → Res (Option D)} {P : Store → Prop} {Q : D → D → Prop} : ∀ {xs : List D} {S : Store}, (∀ x ∈ xs, ∀ S, P S → ∃ y S', f x S = .ok (some y) S' ∧ P S' ∧ Q x y) → P S →
    ∃ ys S', turns f xs S = .ok ys S' ∧ P S' ∧ ys.length = xs.length ∧ ∀ y ∈ ys, ∃ x ∈ xs, Q x y
  | [], S, _, hP => ⟨[], S, rfl, hP, rfl, fun y hy => by cases hy⟩
  | x :: xs, S, h, hP => by
    obtain ⟨y, S1, e1, p1, q1⟩ := h x (List.mem_cons_self ..) S hP
    obtain ⟨ys, S2, e2, p2, l2, q2⟩ := turns_inv (xs := xs) (fun z hz => h z (List.mem_cons_of_mem _ hz)) p1
    refine ⟨y :: ys, S2, ?_, p2, by simp [l2], fun z hz => ?_⟩
    · simp only [turns, e1, calm_ok, bind_ok, e2]
      rfl
    · rcases List.mem_cons.mp hz with rfl | hz
      · exact ⟨x, List.mem_cons_self .., q1⟩
      · obtain ⟨w, hw, qw⟩ := q2 z hz
        exact ⟨w, List.mem_cons_of_mem _ hw, qw⟩
/-! ### places -/
theorem atD_nat {α : Type} {xs : List α} {i : Int} (h : 0 ≤ i) (h2 : i < xs.length) : atD xs i = xs[i.toNat]? := by
  unfold atD ixD
  rw [if_pos h, if_pos h2]
  rfl
theorem clD_some {n d : Nat} {i : Int} (h : 0 ≤ i) : clD n d (some i) = min i.toNat n := by
  show (if i < 0 then _ else _) = _
  rw [if_neg (by omega)]
@[simp] theorem clD_none {n d : Nat} : clD n d none = d := rfl
@[simp] theorem atD_zero {α : Type} {x : α} {xs : List α} : atD (x :: xs) 0 = some x := by
  unfold atD ixD
  rw [if_pos (by omega), if_pos (by simp)]
  rfl
theorem cutD_from {α : Type} {xs : List α} {c : Int} (h : 0 ≤ c) : cutD xs (some c) none = xs.drop c.toNat := by
  unfold cutD
  rw [clD_some h, clD_none]
  rw [List.take_of_length_le (by simp)]
  by_cases hl : c.toNat ≤ xs.length
  · rw [Nat.min_eq_left hl]
  · rw [Nat.min_eq_right (by omega), List.drop_length, List.drop_of_length_le (by omega)]
theorem cutD_to {α : Type} {xs : List α} {c : Int} (h : 0 ≤ c) : cutD xs none (some c) = xs.take c.toNat := by
  unfold cutD
  rw [clD_some h, clD_none, List.drop_zero, Nat.sub_zero]
  by_cases hl : c.toNat ≤ xs.length
  · rw [Nat.min_eq_left hl]
  · rw [Nat.min_eq_right (by omega), List.take_length, List.take_of_length_le (by omega)]
theorem mulOk_l {i j : Int} (h : -(2 ^ 64) < i) (h2 : i < 2 ^ 64) : mulOk i j = true := by
  unfold mulOk
  simp only [Bool.or_eq_true, Bool.and_eq_true, decide_eq_true_eq]
  omega
theorem mulOk_r {i j : Int} (h : -(2 ^ 64) < j) (h2 : j < 2 ^ 64) : mulOk i j = true := by
  unfold mulOk
  simp only [Bool.or_eq_true, Bool.and_eq_true, decide_eq_true_eq]
  omega
/-- one def, called -/
theorem Law.call_eq (l : Law) {k f : Nat} {d : Def} {ds : List D} {S : Store} (hd : l.Tb.defs f = some d) (hl : ds.length = d.params) : l.call (k + 1) f ds S = (match execs l.G (l.call k) l.sub d.body (start d.slots ds) S with
      | .ret v S' => .ok v S'
      | .nx _ S' => .ok .non S'
      | .ex e _ S' => .ex e S'
      | _ => .bad) := by
  show Rf.call l.Tb.defs l.G l.sub (k + 1) f ds S = _
  unfold Rf.call
  rw [hd]
  dsimp only
  rw [if_pos hl]
  rfl
end Rf

set_option Elab.async false
set_option maxRecDepth 100000
set_option maxHeartbeats 1000000
/-! Rf, part U: small rewritings for plain proofs. -/
namespace Rf

@[simp] theorem see_cc (S : Store) (k : Cst) : see S (.c k) = .c k := rfl
@[simp] theorem see_tt (S : Store) (xs : List D) : see S (.tup xs) = .tup xs := rfl
@[simp] theorem see_ll (S : Store) (xs : List D) : see S (.lst xs) = .lst xs := rfl
@[simp] theorem see_fn (S : Store) (f : Nat) : see S (.fn f) = .fn f := rfl
@[simp] theorem see_fzz (S : Store) (xs : List D) : see S (.fz xs) = .fz xs := rfl
@[simp] theorem bin_add (i j : Int) : binD .add (.c (.int i)) (.c (.int j)) = some (.c (.int (i + j))) := rfl
@[simp] theorem bin_sub (i j : Int) : binD .sub (.c (.int i)) (.c (.int j)) = some (.c (.int (i - j))) := rfl
theorem bin_addT {xs ys : List D} (h : xs.length + ys.length ≤ LINE) : binD .add (.tup xs) (.tup ys) = some (.tup (xs ++ ys)) := if_pos h
theorem bin_addL {xs ys : List D} (h : xs.length + ys.length ≤ LINE) : binD .add (.lst xs) (.lst ys) = some (.lst (xs ++ ys)) := if_pos h
theorem bin_mul {i j : Int} (h : mulOk i j = true) : binD .mul (.c (.int i)) (.c (.int j)) = some (.c (.int (i * j))) := if_pos h
theorem bin_div {i j : Int} (h : 0 < j ∧ j < 1073741824) : binD .div (.c (.int i)) (.c (.int j)) = some (.c (.int (i / j))) := if_pos h
theorem bin_mod {i j : Int} (h : 0 < j) : binD .mod (.c (.int i)) (.c (.int j)) = some (.c (.int (i % j))) := if_pos h
@[simp] theorem cmp_eqI (i j : Int) : cmpD .eq (.c (.int i)) (.c (.int j)) = some (decide (i = j)) := by simp [cmpD, eqD?, eqOk, plnD, sgD, depD, eqD]
@[simp] theorem cmp_neI (i j : Int) : cmpD .ne (.c (.int i)) (.c (.int j)) = some (!decide (i = j)) := by simp [cmpD, eqD?, eqOk, plnD, sgD, depD, eqD]
@[simp] theorem cmp_ltI (i j : Int) : cmpD .lt (.c (.int i)) (.c (.int j)) = some (decide (i < j)) := rfl
@[simp] theorem cmp_leI (i j : Int) : cmpD .le (.c (.int i)) (.c (.int j)) = some (decide (i ≤ j)) := rfl
@[simp] theorem cmp_gtI (i j : Int) : cmpD .gt (.c (.int i)) (.c (.int j)) = some (decide (j < i)) := rfl
@[simp] theorem cmp_geI (i j : Int) : cmpD .ge (.c (.int i)) (.c (.int j)) = some (decide (j ≤ i)) := rfl
@[simp] theorem cmp_isN (x : D) : cmpD .is x (.c .non) = some (isNon x) := by
  cases x with
  | c k => cases k <;> rfl
  | _ => rfl
@[simp] theorem cmp_isnN (x : D) : cmpD .isnot x (.c .non) = some (!isNon x) := by
  cases x with
  | c k => cases k <;> rfl
  | _ => rfl
@[simp] theorem isNon_int (i : Int) : isNon (.c (.int i)) = false := rfl
@[simp] theorem isNon_non : isNon (.c .non) = true := rfl
@[simp] theorem isNon_bl (b : Bool) : isNon (.c (.bl b)) = false := rfl
@[simp] theorem isNon_tup (xs : List D) : isNon (.tup xs) = false := rfl
@[simp] theorem isNon_lst (xs : List D) : isNon (.lst xs) = false := rfl
@[simp] theorem cmp_isB (a b : Bool) : cmpD .is (.c (.bl a)) (.c (.bl b)) = some (decide (a = b)) := rfl
@[simp] theorem cmp_isnB (a b : Bool) : cmpD .isnot (.c (.bl a)) (.c (.bl b)) = some (!decide (a = b)) := rfl
@[simp] theorem idx_tup (xs : List D) (i : Int) (S : Store) : idxD (.tup xs) (.c (.int i)) S = atD xs i := rfl
@[simp] theorem idx_lst (xs : List D) (i : Int) (S : Store) : idxD (.lst xs) (.c (.int i)) S = atD xs i := rfl
@[simp] theorem idx_fz (xs : List D) (i : Int) (S : Store) : idxD (.fz xs) (.c (.int i)) S = atD xs i := rfl
@[simp] theorem idx_ref0 (xs : List D) (i : Int) (R : Store) : idxD (.ref 0) (.c (.int i)) (.lst xs :: R) = atD xs i := rfl
@[simp] theorem getA_ref0 (xs : List D) (i : Int) (h : 0 ≤ i) (R : Store) : getA (.ref 0) (.c (.int i)) (.lst xs :: R) = atD xs i := by
  unfold getA
  rw [if_pos]
  · rfl
  · simp [refD, posD, h]
@[simp] theorem put_ref0 (xs : List D) (i : Int) (v : D) (R : Store) : putIx (.ref 0) (.c (.int i)) v (.lst xs :: R) = (ixD xs.length i).map fun j => .lst (xs.set j v) :: R := rfl
@[simp] theorem augI_add (i j : Int) : augI .add (.c (.int i)) (.c (.int j)) = some (.c (.int (i + j))) := rfl
@[simp] theorem augI_sub (i j : Int) : augI .sub (.c (.int i)) (.c (.int j)) = some (.c (.int (i - j))) := rfl
@[simp] theorem atD_one {α : Type} {x y : α} {xs : List α} : atD (x :: y :: xs) 1 = some y := by
  unfold atD ixD
  rw [if_pos (by omega), if_pos (by simp; omega)]
  rfl
@[simp] theorem atD_two {α : Type} {x y z : α} {xs : List α} : atD (x :: y :: z :: xs) 2 = some z := by
  unfold atD ixD
  rw [if_pos (by omega), if_pos (by simp; omega)]
  rfl
@[simp] theorem atD_three {α : Type} {x y z u : α} {xs : List α} : atD (x :: y :: z :: u :: xs) 3 = some u := by
  unfold atD ixD
  rw [if_pos (by omega), if_pos (by simp; omega)]
  rfl
@[simp] theorem atD_four {α : Type} {x y z u t : α} {xs : List α} : atD (x :: y :: z :: u :: t :: xs) 4 = some t := by
  unfold atD ixD
  rw [if_pos (by omega), if_pos (by simp; omega)]
  rfl
@[simp] theorem blt_int (i : Int) : bltD .int [.c (.int i)] = some (.c (.int i)) := rfl
@[simp] theorem blt_lenT (xs : List D) : bltD .len [.tup xs] = some (.c (.int xs.length)) := rfl
@[simp] theorem blt_lenL (xs : List D) : bltD .len [.lst xs] = some (.c (.int xs.length)) := rfl
@[simp] theorem blt_tupL (xs : List D) : bltD .tuple [.lst xs] = some (.tup xs) := rfl
@[simp] theorem blt_tupT (xs : List D) : bltD .tuple [.tup xs] = some (.tup xs) := rfl
@[simp] theorem blt_lstT (xs : List D) : bltD .list [.tup xs] = some (.lst xs) := rfl
@[simp] theorem blt_abs (i : Int) : bltD .abs [.c (.int i)] = some (.c (.int (if i < 0 then -i else i))) := rfl
@[simp] theorem slcP_tup (xs : List D) (lo hi : List D) (a b : Option Int) (S : Store) (h1 : bnds lo = some a) (h2 : bnds hi = some b) : slcP (.tup xs) lo hi S = some (.tup (cutD xs a b)) := by
  unfold slcP
  rw [h1, h2]
  rfl
theorem slcP_lst (xs : List D) (lo hi : List D) (a b : Option Int) (S : Store) (h1 : bnds lo = some a) (h2 : bnds hi = some b) : slcP (.lst xs) lo hi S = some (.lst (cutD xs a b)) := by
  unfold slcP
  rw [h1, h2]
  rfl
theorem slcP_fz (xs : List D) (lo hi : List D) (a b : Option Int) (S : Store) (h1 : bnds lo = some a) (h2 : bnds hi = some b) : slcP (.fz xs) lo hi S = some (.lst (cutD xs a b)) := by
  unfold slcP
  rw [h1, h2]
  rfl
@[simp] theorem bnds_nil : bnds [] = some none := rfl
@[simp] theorem bnds_int (i : Int) : bnds [.c (.int i)] = some (some i) := rfl
@[simp] theorem isi_intI (i : Int) : isiD (.c (.int i)) "int" = some true := rfl
@[simp] theorem isi_intB (i : Int) : isiD (.c (.int i)) "bool" = some false := rfl
@[simp] theorem isi_tupT (xs : List D) : isiD (.tup xs) "tuple" = some true := rfl
@[simp] theorem isi_lstT (xs : List D) : isiD (.lst xs) "tuple" = some false := rfl
@[simp] theorem isi_nonT : isiD (.c .non) "tuple" = some false := rfl
theorem blt_allB {α : Type} (q : α → Bool) (xs : List α) : bltD .all [.lst (xs.map fun x => .c (.bl (q x)))] = some (.c (.bl (xs.all q))) := by
  have h : ∀ xs : List α, boolsD (xs.map fun x => D.c (.bl (q x))) = some (xs.map q) := by
    intro xs
    induction xs with
    | nil => rfl
    | cons x xs ih =>
      show (boolsD (xs.map fun x => D.c (.bl (q x)))).map (q x :: ·) = _
      rw [ih]
      rfl
  show (boolsD _).map _ = _
  rw [h]
  simp
theorem blt_sumI {α : Type} (q : α → Int) (xs : List α) : bltD .sum [.lst (xs.map fun x => .c (.int (q x)))] = some (.c (.int (xs.map q).sum)) := by
  have h : ∀ xs : List α, intsD (xs.map fun x => D.c (.int (q x))) = some (xs.map q) := by
    intro xs
    induction xs with
    | nil => rfl
    | cons x xs ih =>
      show (intsD (xs.map fun x => D.c (.int (q x)))).map (q x :: ·) = _
      rw [ih]
      rfl
  show (intsD _).map _ = _
  rw [h]
  simp
end Rf

set_option Elab.async false
set_option maxRecDepth 100000
set_option maxHeartbeats 1000000
/-! Rf, part V: turns over lists of a kind; dicts made in a def. -/
namespace Rf

theorem turns_mapF {α : Type} {f : D → Store → Res (Option D)} (e g : α → D) {S : Store} : ∀ {xs : List α}, (∀ x ∈ xs, f (e x) S = .ok (some (g x)) S) → turns f (xs.map e) S = .ok (xs.map g) S
  | [], _ => rfl
  | x :: xs, h => by
    rw [List.map_cons]
    simp only [turns, h x (List.mem_cons_self ..), calm_ok, bind_ok]
    rw [turns_mapF e g fun y hy => h y (List.mem_cons_of_mem _ hy)]
    rfl
theorem turns_filterF {α : Type} {f : D → Store → Res (Option D)} (e g : α → D) (p : α → Bool) {S : Store} : ∀ {xs : List α}, (∀ x ∈ xs, f (e x) S = .ok (if p x then some (g x) else none) S) → turns f (xs.map e) S = .ok ((xs.filter p).map g) S
  | [], _ => rfl
  | x :: xs, h => by
    rw [List.map_cons]
    simp only [turns, h x (List.mem_cons_self ..), calm_ok, bind_ok]
    rw [turns_filterF e g p fun y hy => h y (List.mem_cons_of_mem _ hy)]
    cases hp : p x <;> simp [hp]
/-! ### a dict at the store's end -/
theorem at_end {S : Store} {o : Ob} : (S ++ [o])[S.length]? = some o := by
  rw [List.getElem?_append_right (Nat.le_refl _), Nat.sub_self]
  rfl
theorem set_end {S : Store} {o o' : Ob} : (S ++ [o]).set S.length o' = S ++ [o'] := by
  rw [List.set_append_right _ _ (Nat.le_refl _), Nat.sub_self]
  rfl
@[simp] theorem dct_end {S : Store} {kvs : List (Ky × D)} : dctAt (S ++ [.dct kvs]) (.ref S.length) = some (S.length, kvs) := by
  unfold dctAt
  dsimp only
  rw [at_end]
@[simp] theorem get_end {S : Store} {kvs : List (Ky × D)} {w : Int} {z : D} : getD2 (.ref S.length) (.c (.int w)) z (S ++ [.dct kvs]) = some ((getK kvs (.int w)).getD z) := by
  unfold getD2
  rw [dct_end]
  rfl
theorem put_end {S : Store} {kvs : List (Ky × D)} {w : Int} {v : D} (h : kvs.length < LINE) : putIx (.ref S.length) (.c (.int w)) v (S ++ [.dct kvs]) = some (S ++ [.dct (putKy kvs (.int w) v)]) := by
  unfold putIx
  dsimp only
  rw [at_end]
  show (if kvs.length < LINE then _ else _) = _
  rw [if_pos h, set_end]
@[simp] theorem idx_end {S : Store} {kvs : List (Ky × D)} {w : Int} : idxD (.ref S.length) (.c (.int w)) (S ++ [.dct kvs]) = getK kvs (.int w) := by
  unfold idxD
  dsimp only
  rw [at_end]
  rfl
/-- a dict of whole numbers -/
def dM (m : List (Int × Int)) : List (Ky × D) := m.map fun q => (.int q.1, .c (.int q.2))
def keysM (m : List (Int × Int)) : List Int := m.map (·.1)
def getM (m : List (Int × Int)) (w : Int) : Option Int := (m.find? fun q => decide (q.1 = w)).map (·.2)
def putM (m : List (Int × Int)) (w v : Int) : List (Int × Int) := if (m.any fun q => decide (q.1 = w)) then m.map fun q => if q.1 = w then (w, v) else q else m ++ [(w, v)]
theorem getK_dM (w : Int) : ∀ m : List (Int × Int), getK (dM m) (.int w) = (getM m w).map fun v => .c (.int v)
  | [] => rfl
  | q :: m => by
    unfold getK getM dM
    rw [List.map_cons, List.find?_cons, List.find?_cons]
    by_cases h : q.1 = w
    · simp [h]
    · have : ¬ (Ky.int q.1 = Ky.int w) := fun z => h (by cases z; rfl)
      simp only [decide_eq_false this, decide_eq_false h]
      exact getK_dM w m
theorem putKy_dM (w v : Int) (m : List (Int × Int)) : putKy (dM m) (.int w) (.c (.int v)) = dM (putM m w v) := by
  unfold putKy putM dM
  have e : ∀ q : Int × Int, (Ky.int q.1 = Ky.int w) ↔ q.1 = w := fun q => ⟨fun z => by cases z; rfl, fun z => by rw [z]⟩
  rw [List.any_map]
  have e1 : ((fun q : Ky × D => decide (q.1 = Ky.int w)) ∘ fun q : Int × Int => (Ky.int q.1, D.c (.int q.2))) = fun q => decide (q.1 = w) := by
    funext q
    show decide (Ky.int q.1 = Ky.int w) = _
    simp [e]
  rw [e1]
  by_cases h : (m.any fun q => decide (q.1 = w)) = true
  · rw [if_pos h, if_pos h, List.map_map, List.map_map]
    congr 1
    funext q
    by_cases hq : q.1 = w
    · simp [hq]
    · simp [hq]
  · rw [if_neg h, if_neg h, List.map_append]
    rfl
theorem intKeys_dM : ∀ m : List (Int × Int), intKeys (dM m) = some (keysM m)
  | [] => rfl
  | q :: m => by
    show (intKeys (dM m)).map (q.1 :: ·) = _
    rw [intKeys_dM m]
    rfl
theorem skey_end {S : Store} {m : List (Int × Int)} (h : m.length < 64) : skeyD (.ref S.length) (S ++ [.dct (dM m)]) = some (.lst ((sortI (keysM m)).map .int)) := by
  unfold skeyD
  rw [dct_end]
  dsimp only
  rw [intKeys_dM]
  show (if (keysM m).length < 64 then _ else _) = _
  rw [if_pos (by unfold keysM; rw [List.length_map]; exact h)]
/-- a loop by what stays true -/
theorem forL_inv {α : Type} {tg : Tg} {B : Env → Store → Out} (e : α → D) {P : List α → Env → Store → Prop} : ∀ (xs pre : List α) (σ : Env) (S : Store),
    (∀ (pre : List α) (x : α) (σ : Env) (S : Store), x ∈ xs → P pre σ S → ∃ σ1 σ2 S2, asg tg (e x) σ = some σ1 ∧ B σ1 S = .nx σ2 S2 ∧ P (pre ++ [x]) σ2 S2) → P pre σ S → ∃ σ' S', forL tg B (xs.map e) σ S = .nx σ' S' ∧ P (pre ++ xs) σ' S'
  | [], pre, σ, S, _, h => ⟨σ, S, rfl, by rw [List.append_nil]; exact h⟩
  | x :: xs, pre, σ, S, step, h => by
    obtain ⟨σ1, σ2, S2, e1, e2, h2⟩ := step pre x σ S (List.mem_cons_self ..) h
    obtain ⟨σ', S', e3, h3⟩ := forL_inv e xs (pre ++ [x]) σ2 S2 (fun pre y σ S hy => step pre y σ S (List.mem_cons_of_mem _ hy)) h2
    refine ⟨σ', S', ?_, by rw [List.append_assoc] at h3; exact h3⟩
    rw [List.map_cons]
    unfold forL
    rw [e1]
    dsimp only
    rw [e2]
    exact e3
end Rf

set_option Elab.async false
set_option maxRecDepth 100000
set_option maxHeartbeats 1000000
/-! Rf, part W: sums over wires (plain). -/
namespace Rf

def addM (p : Int) (m : List (Int × Int)) (q : Int × Int) : List (Int × Int) := putM m q.1 (((getM m q.1).getD 0 + q.2) % p)
theorem putM_len (m : List (Int × Int)) (w v : Int) : (putM m w v).length ≤ m.length + 1 := by
  unfold putM
  split <;> simp
theorem addM_len (p : Int) (m : List (Int × Int)) (q : Int × Int) : (addM p m q).length ≤ m.length + 1 := putM_len _ _ _
theorem foldM_len (p : Int) : ∀ (ps m : List (Int × Int)), (ps.foldl (addM p) m).length ≤ m.length + ps.length
  | [], m => by simp
  | q :: ps, m => by
    rw [List.foldl_cons, List.length_cons]
    have := foldM_len p ps (addM p m q)
    have := addM_len p m q
    omega
/-- the sum that the law makes -/
def lawSum (p c : Int) (ps : List (Int × Int)) : Int × List (Int × Int) :=
  (c % p, ((sortI (keysM (ps.foldl (addM p) []))).filter fun w => decide (0 < (getM (ps.foldl (addM p) []) w).getD 0)).map fun w => (w, (getM (ps.foldl (addM p) []) w).getD 0))
/-- what it comes to -/
def sumAt (f : Int → Int) : List (Int × Int) → Int
  | [] => 0
  | q :: r => q.2 * f q.1 + sumAt f r
def valS (p : Int) (s : Int × List (Int × Int)) (f : Int → Int) : Int := (s.1 + sumAt f s.2) % p
theorem sumAt_append (f : Int → Int) : ∀ a b : List (Int × Int), sumAt f (a ++ b) = sumAt f a + sumAt f b
  | [], b => by simp [sumAt]
  | q :: a, b => by
    simp only [List.cons_append, sumAt, sumAt_append f a b]
    omega
theorem sumAt_map (f : Int → Int) : ∀ a : List (Int × Int), sumAt f a = (a.map fun q => q.2 * f q.1).sum
  | [] => rfl
  | q :: a => by simp only [sumAt, sumAt_map f a, List.map_cons, List.sum_cons]
/-! distinct keys, values from 0 below p -/
structure MOk (p : Int) (m : List (Int × Int)) : Prop where
  nd : (keysM m).Nodup
  lo : ∀ q ∈ m, 0 ≤ q.2 ∧ q.2 < p
theorem getM_mem {m : List (Int × Int)} (h : (keysM m).Nodup) {q : Int × Int} (hq : q ∈ m) : getM m q.1 = some q.2 := by
  induction m with
  | nil => cases hq
  | cons r m ih =>
    unfold keysM at h
    rw [List.map_cons, List.nodup_cons] at h
    unfold getM
    rw [List.find?_cons]
    rcases List.mem_cons.mp hq with rfl | hq
    · simp
    · have ne : ¬ r.1 = q.1 := fun z => h.1 (by rw [z]; exact List.mem_map_of_mem (f := fun q : Int × Int => q.1) hq)
      simp only [decide_eq_false ne]
      exact ih h.2 hq
theorem getM_some {m : List (Int × Int)} {w v : Int} (h : getM m w = some v) : (w, v) ∈ m := by
  unfold getM at h
  obtain ⟨q, h1, h2⟩ := Option.map_eq_some_iff.mp h
  have h3 := List.find?_some h1
  have h4 := List.mem_of_find?_eq_some h1
  obtain ⟨a, b⟩ := q
  have : a = w := by simpa using h3
  subst this
  cases h2
  exact h4
theorem getM_none {m : List (Int × Int)} {w : Int} : getM m w = none ↔ w ∉ keysM m := by
  unfold getM keysM
  rw [Option.map_eq_none_iff, List.find?_eq_none]
  constructor
  · intro h hw
    obtain ⟨q, hq, e⟩ := List.mem_map.mp hw
    exact h q hq (by simpa using e)
  · intro h q hq e
    exact h (List.mem_map.mpr ⟨q, hq, by simpa using e⟩)
theorem keys_putM (m : List (Int × Int)) (w v : Int) : keysM (putM m w v) = if w ∈ keysM m then keysM m else keysM m ++ [w] := by
  unfold putM keysM
  by_cases h : w ∈ m.map (·.1)
  · have h2 : (m.any fun q => decide (q.1 = w)) = true := by
      obtain ⟨q, hq, e⟩ := List.mem_map.mp h
      exact List.any_eq_true.mpr ⟨q, hq, by simpa using e⟩
    rw [if_pos h2, if_pos h, List.map_map]
    apply List.map_congr_left
    intro q _
    show (if q.1 = w then (w, v) else q).1 = q.1
    split
    · rename_i e; exact e.symm
    · rfl
  · have h2 : ¬ (m.any fun q => decide (q.1 = w)) = true := fun z => by
      obtain ⟨q, hq, e⟩ := List.any_eq_true.mp z
      exact h (List.mem_map.mpr ⟨q, hq, by simpa using e⟩)
    rw [if_neg h2, if_neg h, List.map_append]
    rfl
theorem putM_ok {p : Int} {m : List (Int × Int)} (h : MOk p m) {w v : Int} (h0 : 0 ≤ v) (h1 : v < p) : MOk p (putM m w v) := by
  refine ⟨?_, fun q hq => ?_⟩
  · rw [keys_putM]
    split
    · exact h.nd
    · rename_i hw
      rw [List.nodup_append]
      refine ⟨h.nd, by simp, fun a ha b hb => ?_⟩
      rw [List.mem_singleton] at hb
      subst hb
      exact fun z => hw (z ▸ ha)
  · unfold putM at hq
    split at hq
    · obtain ⟨r, hr, e⟩ := List.mem_map.mp hq
      split at e
      · rw [← e]; exact ⟨h0, h1⟩
      · rw [← e]; exact h.lo r hr
    · rcases List.mem_append.mp hq with hq | hq
      · exact h.lo q hq
      · rw [List.mem_singleton] at hq
        rw [hq]
        exact ⟨h0, h1⟩
theorem sumAt_put (f : Int → Int) : ∀ {m : List (Int × Int)} {w v : Int}, (keysM m).Nodup → sumAt f (putM m w v) = sumAt f m + (v - (getM m w).getD 0) * f w := by
  intro m w v h
  by_cases hw : w ∈ keysM m
  · have e : putM m w v = m.map fun q => if q.1 = w then (w, v) else q := by
      unfold putM
      rw [if_pos]
      obtain ⟨q, hq, e⟩ := List.mem_map.mp hw
      exact List.any_eq_true.mpr ⟨q, hq, by simpa using e⟩
    rw [e]
    clear e
    induction m with
    | nil => cases hw
    | cons r m ih =>
      unfold keysM at h hw
      rw [List.map_cons] at h hw
      rw [List.nodup_cons] at h
      rw [List.map_cons]
      by_cases hr : r.1 = w
      · have same : (m.map fun q => if q.1 = w then (w, v) else q) = m := by
          refine (List.map_congr_left fun q hq => ?_).trans (List.map_id m)
          have : ¬ q.1 = w := fun z => h.1 (by rw [hr, ← z]; exact List.mem_map_of_mem (f := fun q : Int × Int => q.1) hq)
          rw [if_neg this]
          rfl
        have hg : getM (r :: m) w = some r.2 := by
          unfold getM
          rw [List.find?_cons]
          simp [hr]
        rw [same, hg, if_pos hr]
        simp only [sumAt, Option.getD_some, Int.sub_mul, hr]
        omega
      · have hg : getM (r :: m) w = getM m w := by
          unfold getM
          rw [List.find?_cons]
          simp [hr]
        rw [hg, if_neg hr]
        have hw' : w ∈ keysM m := by
          rcases List.mem_cons.mp hw with z | z
          · exact absurd z.symm hr
          · exact z
        simp only [sumAt]
        rw [ih h.2 hw']
        omega
  · have hn : getM m w = none := getM_none.mpr hw
    have e : putM m w v = m ++ [(w, v)] := by
      unfold putM
      rw [if_neg]
      intro z
      obtain ⟨q, hq, e⟩ := List.any_eq_true.mp z
      exact hw (List.mem_map.mpr ⟨q, hq, by simpa using e⟩)
    rw [e, hn, sumAt_append]
    simp [sumAt]
theorem fold_ok {p : Int} (hp : 0 < p) : ∀ (ps m : List (Int × Int)), MOk p m → MOk p (ps.foldl (addM p) m)
  | [], m, h => h
  | q :: ps, m, h => fold_ok hp ps _ (putM_ok h (Int.emod_nonneg _ (by omega)) (Int.emod_lt_of_pos _ hp))
theorem fold_sum {p : Int} (hp : 0 < p) (f : Int → Int) : ∀ (ps m : List (Int × Int)), MOk p m → (sumAt f (ps.foldl (addM p) m)) % p = (sumAt f m + sumAt f ps) % p
  | [], m, _ => by simp [sumAt]
  | q :: ps, m, h => by
    have h2 : MOk p (addM p m q) := putM_ok h (Int.emod_nonneg _ (by omega)) (Int.emod_lt_of_pos _ hp)
    rw [List.foldl_cons, fold_sum hp f ps _ h2]
    unfold addM
    rw [sumAt_put f h.nd]
    simp only [sumAt]
    generalize (getM m q.1).getD 0 = g
    have e : (g + q.2) % p = g + q.2 - p * ((g + q.2) / p) := by
      have := Int.emod_add_mul_ediv (g + q.2) p
      omega
    rw [e]
    have e2 : sumAt f m + (g + q.2 - p * ((g + q.2) / p) - g) * f q.1 + sumAt f ps = (sumAt f m + (q.2 * f q.1 + sumAt f ps)) + p * (- (((g + q.2) / p) * f q.1)) := by
      have z1 : (g + q.2 - p * ((g + q.2) / p) - g) * f q.1 = q.2 * f q.1 - p * ((g + q.2) / p) * f q.1 := by
        rw [show g + q.2 - p * ((g + q.2) / p) - g = q.2 - p * ((g + q.2) / p) from by omega, Int.sub_mul]
      rw [z1, Int.mul_neg, Int.mul_assoc]
      omega
    rw [e2, Int.add_mul_emod_self_left]
theorem sum_perm {a b : List Int} (h : a.Perm b) : a.sum = b.sum := by
  induction h with
  | nil => rfl
  | cons x _ ih => rw [List.sum_cons, List.sum_cons, ih]
  | swap x y l => rw [List.sum_cons, List.sum_cons, List.sum_cons, List.sum_cons]; omega
  | trans _ _ h1 h2 => exact h1.trans h2
theorem sum_filter (g : Int → Int) (q : Int → Bool) : ∀ l : List Int, (∀ x ∈ l, q x = false → g x = 0) → ((l.filter q).map g).sum = (l.map g).sum
  | [], _ => rfl
  | x :: l, h => by
    have ih := sum_filter g q l fun y hy => h y (List.mem_cons_of_mem _ hy)
    rw [List.filter_cons, List.map_cons, List.sum_cons]
    cases hq : q x with
    | true => rw [if_pos rfl, List.map_cons, List.sum_cons, ih]
    | false =>
      rw [if_neg Bool.false_ne_true, ih, h x (List.mem_cons_self ..) hq]
      omega
/-- the law's sum comes to what its parts come to -/
theorem lawSum_val {p : Int} (hp : 0 < p) (c : Int) (ps : List (Int × Int)) (f : Int → Int) : valS p (lawSum p c ps) f = (c + sumAt f ps) % p := by
  have ok := fold_ok hp ps [] ⟨List.nodup_nil, fun q hq => nomatch hq⟩
  have fs := fold_sum hp f ps [] ⟨List.nodup_nil, fun q hq => nomatch hq⟩
  unfold valS lawSum
  dsimp only
  generalize ps.foldl (addM p) [] = m at ok fs
  have e1 : sumAt f (((sortI (keysM m)).filter fun w => decide (0 < (getM m w).getD 0)).map fun w => (w, (getM m w).getD 0)) = sumAt f m := by
    rw [sumAt_map, List.map_map]
    have e2 : ((fun q : Int × Int => q.2 * f q.1) ∘ fun w => (w, (getM m w).getD 0)) = fun w => (getM m w).getD 0 * f w := rfl
    rw [e2, sum_filter (fun w => (getM m w).getD 0 * f w)]
    · rw [sum_perm ((sortI_perm (keysM m)).map _), sumAt_map]
      unfold keysM
      rw [List.map_map]
      congr 1
      apply List.map_congr_left
      intro q hq
      show (getM m q.1).getD 0 * f q.1 = _
      rw [getM_mem ok.nd hq]
      rfl
    · intro w hw hq
      have hq : ¬ 0 < (getM m w).getD 0 := of_decide_eq_false hq
      have hw' : w ∈ keysM m := (sortI_perm _).mem_iff.mp hw
      obtain ⟨q, hq', e⟩ := List.mem_map.mp hw'
      have e : q.1 = w := e
      have g := getM_mem ok.nd hq'
      rw [e] at g
      have := (ok.lo q hq').1
      rw [g, Option.getD_some] at hq ⊢
      have : q.2 = 0 := by omega
      rw [this, Int.zero_mul]
  rw [e1]
  have e3 : (c % p + sumAt f m) % p = (c + sumAt f m % p) % p := by
    rw [Int.emod_add_emod, Int.add_emod_emod] <;> rfl
  rw [e3, fs]
  simp [sumAt]
theorem mem_putM {m : List (Int × Int)} {w v x : Int} (h : x ∈ keysM (putM m w v)) : x ∈ keysM m ∨ x = w := by
  rw [keys_putM] at h
  split at h
  · exact .inl h
  · rcases List.mem_append.mp h with h | h
    · exact .inl h
    · exact .inr (List.mem_singleton.mp h)
theorem mem_fold {p x : Int} : ∀ {ps m : List (Int × Int)}, x ∈ keysM (ps.foldl (addM p) m) → x ∈ keysM m ∨ x ∈ keysM ps
  | [], m, h => .inl h
  | q :: ps, m, h => by
    rcases mem_fold (ps := ps) h with h | h
    · rcases mem_putM h with h | h
      · exact .inl h
      · exact .inr (by rw [h]; exact List.mem_cons_self ..)
    · exact .inr (List.mem_cons_of_mem _ h)
theorem lawSum_mem {p c : Int} (hp : 0 < p) {ps : List (Int × Int)} {q : Int × Int} (h : q ∈ (lawSum p c ps).2) : 0 < q.2 ∧ q.2 < p ∧ q.1 ∈ keysM ps := by
  have ok := fold_ok hp ps [] ⟨List.nodup_nil, fun q hq => nomatch hq⟩
  obtain ⟨w, hw, rfl⟩ := List.mem_map.mp h
  obtain ⟨h1, h2⟩ := List.mem_filter.mp hw
  have h2 : 0 < (getM (ps.foldl (addM p) []) w).getD 0 := of_decide_eq_true h2
  have h3 := (sortI_perm _).mem_iff.mp h1
  refine ⟨h2, ?_, ?_⟩
  · dsimp only
    cases g : getM (ps.foldl (addM p) []) w with
    | none => exact hp
    | some v => exact (ok.lo _ (getM_some g)).2
  · rcases mem_fold h3 with z | z
    · cases z
    · exact z
theorem lawSum_asc {p c : Int} (hp : 0 < p) {ps : List (Int × Int)} : (lawSum p c ps).2.Pairwise fun a b => a.1 < b.1 := by
  have ok := fold_ok hp ps [] ⟨List.nodup_nil, fun q hq => nomatch hq⟩
  unfold lawSum
  dsimp only
  rw [List.pairwise_map]
  apply List.Pairwise.filter
  have s := sortI_sorted (keysM (ps.foldl (addM p) []))
  have n : (sortI (keysM (ps.foldl (addM p) []))).Nodup := (sortI_perm _).nodup_iff.mpr ok.nd
  refine List.Pairwise.imp₂ (R := (· ≤ ·)) (S := (· ≠ ·)) (fun a b h1 h2 => ?_) s n
  show a < b
  omega
theorem lawSum_c {p c : Int} (hp : 0 < p) (ps : List (Int × Int)) : 0 ≤ (lawSum p c ps).1 ∧ (lawSum p c ps).1 < p := ⟨Int.emod_nonneg _ (by omega), Int.emod_lt_of_pos _ hp⟩
theorem insD_len (i : Int) : ∀ l : List Int, (insD i l).length = l.length + 1 := fun l => (insD_perm i l).length_eq
theorem lawSum_len {p c : Int} (ps : List (Int × Int)) : (lawSum p c ps).2.length ≤ ps.length := by
  unfold lawSum
  dsimp only
  rw [List.length_map]
  refine Nat.le_trans (List.length_filter_le _ _) ?_
  rw [(sortI_perm _).length_eq]
  unfold keysM
  rw [List.length_map]
  have := foldM_len p ps []
  simpa using this
/-! ### as values -/
def dPart (q : Int × Int) : D := .tup [.int q.1, .int q.2]
def dSum (s : Int × List (Int × Int)) : D := .tup [.int s.1, .tup (s.2.map dPart)]
def dInts (l : List Int) : D := .tup (l.map .int)
abbrev Sm := Int × List (Int × Int)
def dRow (r : Sm × Sm × Sm) : D := .tup [dSum r.1, dSum r.2.1, dSum r.2.2]
def dSys (p many : Int) (inputs told : List Int) (rows : List (Sm × Sm × Sm)) : D := .tup [.int p, .int many, dInts inputs, dInts told, .tup (rows.map dRow)]
/-- a filling's number at a wire -/
def fat (fil : List Int) (w : Int) : Int := fil.getD w.toNat 0
theorem atD_ints {fil : List Int} {w : Int} (h : 0 ≤ w) (h2 : w < fil.length) : atD (fil.map D.int) w = some (.c (.int (fat fil w))) := by
  rw [atD_nat h (by simpa using h2), List.getElem?_map]
  have hl : w.toNat < fil.length := by omega
  unfold fat
  rw [List.getD_eq_getElem?_getD, List.getElem?_eq_getElem hl]
  rfl
theorem pus_map {α : Type} (f : α → D) (h : ∀ x, puD (f x) = true) : ∀ xs : List α, puDs (xs.map f) = true
  | [] => by simp
  | x :: xs => by simp [h x, pus_map f h xs]
@[simp] theorem pu_part (q : Int × Int) : puD (dPart q) = true := by simp [dPart]
@[simp] theorem pu_sum (s : Sm) : puD (dSum s) = true := by simp [dSum, pus_map dPart pu_part]
@[simp] theorem pu_ints (l : List Int) : puD (dInts l) = true := by simp [dInts, pus_map D.int (fun _ => by simp)]
@[simp] theorem pu_row (r : Sm × Sm × Sm) : puD (dRow r) = true := by simp [dRow]
@[simp] theorem pu_sys (p many : Int) (a b : List Int) (rows : List (Sm × Sm × Sm)) : puD (dSys p many a b rows) = true := by simp [dSys, pus_map dRow pu_row]
@[simp] theorem idx_sum0 (s : Sm) (S : Store) : idxD (dSum s) (.c (.int 0)) S = some (.c (.int s.1)) := by simp [dSum]
@[simp] theorem idx_sum1 (s : Sm) (S : Store) : idxD (dSum s) (.c (.int 1)) S = some (.tup (s.2.map dPart)) := by simp [dSum]
@[simp] theorem idx_part0 (q : Int × Int) (S : Store) : idxD (dPart q) (.c (.int 0)) S = some (.c (.int q.1)) := by simp [dPart]
@[simp] theorem idx_part1 (q : Int × Int) (S : Store) : idxD (dPart q) (.c (.int 1)) S = some (.c (.int q.2)) := by simp [dPart]
@[simp] theorem idx_ints (l : List Int) (i : Int) (S : Store) : idxD (dInts l) (.c (.int i)) S = atD (l.map D.int) i := rfl
@[simp] theorem idx_sys0 (p many : Int) (a b : List Int) (rows : List (Sm × Sm × Sm)) (S : Store) : idxD (dSys p many a b rows) (.c (.int 0)) S = some (.c (.int p)) := by simp [dSys]
@[simp] theorem idx_sys1 (p many : Int) (a b : List Int) (rows : List (Sm × Sm × Sm)) (S : Store) : idxD (dSys p many a b rows) (.c (.int 1)) S = some (.c (.int many)) := by simp [dSys]
@[simp] theorem idx_sys2 (p many : Int) (a b : List Int) (rows : List (Sm × Sm × Sm)) (S : Store) : idxD (dSys p many a b rows) (.c (.int 2)) S = some (dInts a) := by simp [dSys]
@[simp] theorem idx_sys3 (p many : Int) (a b : List Int) (rows : List (Sm × Sm × Sm)) (S : Store) : idxD (dSys p many a b rows) (.c (.int 3)) S = some (dInts b) := by simp [dSys]
@[simp] theorem idx_sys4 (p many : Int) (a b : List Int) (rows : List (Sm × Sm × Sm)) (S : Store) : idxD (dSys p many a b rows) (.c (.int 4)) S = some (.tup (rows.map dRow)) := by simp [dSys]
@[simp] theorem see_sum (S : Store) (s : Sm) : see S (dSum s) = dSum s := rfl
@[simp] theorem see_ints (S : Store) (l : List Int) : see S (dInts l) = dInts l := rfl
@[simp] theorem see_part (S : Store) (q : Int × Int) : see S (dPart q) = dPart q := rfl
@[simp] theorem see_row (S : Store) (r : Sm × Sm × Sm) : see S (dRow r) = dRow r := rfl
/-- a list at place 1 of the store -/
@[simp] theorem app_one (o : Ob) (xs : List D) (v : D) (h : xs.length < LINE) : appD (.ref 1) [v] [o, .lst xs] = .ok .non [o, .lst (xs ++ [v])] := by
  unfold appD lstAt
  dsimp only [List.getElem?_cons_succ, List.getElem?_cons_zero]
  show (if xs.length < LINE then _ else _) = _
  rw [if_pos h]
  rfl
@[simp] theorem mok_one (o : Ob) (xs : List D) : mthOk .append (.ref 1) [o, .lst xs] = true := rfl
@[simp] theorem see_one (o : Ob) (xs : List D) : see [o, .lst xs] (.ref 1) = .lst xs := rfl
end Rf

set_option Elab.async false
set_option maxRecDepth 100000
set_option maxHeartbeats 1000000
/-! Rf, part X: what may be shown and compared. -/
namespace Rf
structure Shows (d : D) : Prop where
  s : isRep d = true
  e : eqOk d = true
  o : okD d = true
  w : wD d ≤ LINE
mutual
theorem eqD_refl : ∀ d : D, plnD d = true → eqD d d = true
  | .c k, _ => by cases k <;> simp [eqD]
  | .tup xs, h => by simp only [eqD]; exact eqDs_refl xs (by simpa [plnD] using h)
  | .lst xs, h => by simp only [eqD]; exact eqDs_refl xs (by simpa [plnD] using h)
  | .ref _, h => by simp [plnD] at h
  | .fn _, h => by simp [plnD] at h
  | .ty _, h => by simp [plnD] at h
  | .fz _, h => by simp [plnD] at h
  | .ptup _, h => by simp [plnD] at h
  | .edc, h => by simp [plnD] at h
theorem eqDs_refl : ∀ ds : List D, plnDs ds = true → eqDs ds ds = true
  | [], _ => by simp [eqDs]
  | d :: ds, h => by
    simp only [plnDs, Bool.and_eq_true] at h
    simp only [eqDs, Bool.and_eq_true]
    exact ⟨eqD_refl d h.1, eqDs_refl ds h.2⟩
end
/-- plain data of small numbers: w what it weighs, t how deep it is -/
structure Small (t w : Nat) (d : D) : Prop where
  p : plnD d = true
  g : sgD d = true
  o : okD d = true
  t : depD d ≤ t
  w : wD d ≤ w
structure Smalls (t w : Nat) (ds : List D) : Prop where
  p : plnDs ds = true
  g : sgDs ds = true
  o : okDs ds = true
  t : depDs ds ≤ t
  w : wDs ds ≤ w
theorem Small.mono {t w t' w' : Nat} {d : D} (h : Small t w d) (ht : t ≤ t') (hw : w ≤ w') : Small t' w' d := ⟨h.p, h.g, h.o, Nat.le_trans h.t ht, Nat.le_trans h.w hw⟩
theorem Smalls.nil {t w : Nat} : Smalls t w [] := ⟨rfl, rfl, rfl, Nat.zero_le _, Nat.zero_le _⟩
theorem Smalls.cons {t w v : Nat} {d : D} {ds : List D} (h : Small t w d) (hs : Smalls t v ds) : Smalls t (w + 2 + v) (d :: ds) :=
  ⟨by simp only [plnDs, h.p, hs.p, Bool.and_self], by simp only [sgDs, h.g, hs.g, Bool.and_self], by simp only [okDs, h.o, hs.o, Bool.and_self], by simp only [depDs]; exact Nat.max_le.mpr ⟨h.t, hs.t⟩, by simp only [wDs]; have := h.w; have := hs.w; omega⟩
theorem Smalls.map {α : Type} {t w : Nat} (f : α → D) : ∀ {xs : List α}, (∀ x ∈ xs, Small t w (f x)) → Smalls t (xs.length * (w + 2)) (xs.map f)
  | [], _ => .nil
  | x :: xs, h => by
    have r := Smalls.cons (h x (List.mem_cons_self ..)) (Smalls.map f fun y hy => h y (List.mem_cons_of_mem _ hy))
    rw [List.map_cons, List.length_cons, Nat.succ_mul, Nat.add_comm (_ * _)]
    exact r
theorem Small.tup {t w : Nat} {ds : List D} (h : Smalls t w ds) : Small (t + 1) (w + 3) (.tup ds) :=
  ⟨by simp only [plnD, h.p], by simp only [sgD, h.g], by simp only [okD, h.o], by simp only [depD]; have := h.t; omega, by simp only [wD]; have := h.w; omega⟩
theorem Small.lst {t w : Nat} {ds : List D} (h : Smalls t w ds) : Small (t + 1) (w + 3) (.lst ds) :=
  ⟨by simp only [plnD, h.p], by simp only [sgD, h.g], by simp only [okD, h.o], by simp only [depD]; have := h.t; omega, by simp only [wD]; have := h.w; omega⟩
theorem Small.int {t : Nat} {i : Int} (h : -(2 ^ 64) < i) (h2 : i < 2 ^ 64) : Small t 67 (.c (.int i)) := by
  have l : i.natAbs.log2 < 64 := by
    by_cases h0 : i.natAbs = 0
    · rw [h0]; decide
    · rw [Nat.log2_lt h0]
      omega
  refine ⟨rfl, rfl, ?_, Nat.zero_le _, ?_⟩
  · simp only [okD, decide_eq_true_eq]; omega
  · simp only [wD]; omega
theorem Small.non {t w : Nat} (h : 5 ≤ w) : Small t w (.c .non) := ⟨rfl, rfl, rfl, Nat.zero_le _, by simp only [wD]; exact h⟩
theorem Small.bl {t w : Nat} {b : Bool} (h : 5 ≤ w) : Small t w (.c (.bl b)) := ⟨rfl, rfl, rfl, Nat.zero_le _, by simp only [wD]; exact h⟩
theorem Small.shows {t w : Nat} {d : D} (h : Small t w d) (hd : isRep d = true) (ht : t ≤ 64) (hw : w ≤ LINE) : Shows d :=
  ⟨hd, by unfold eqOk; rw [h.p, h.g, decide_eq_true (Nat.le_trans h.t ht)]; rfl, h.o, Nat.le_trans h.w hw⟩
theorem Small.ints {xs : List Int} (h : ∀ x ∈ xs, -(2 ^ 64) < x ∧ x < 2 ^ 64) : Small 1 (xs.length * 69 + 3) (dInts xs) :=
  Small.tup (Smalls.map (t := 0) D.int fun x hx => Small.int (h x hx).1 (h x hx).2)
/-- ascending numbers of a range are few -/
theorem asc_len {a b : Int} : ∀ {xs : List Int}, xs.Pairwise (· < ·) → (∀ x ∈ xs, a ≤ x ∧ x < b) → (xs.length : Int) ≤ max 0 (b - a)
  | [], _, _ => by simp; omega
  | x :: xs, h, r => by
    rw [List.pairwise_cons] at h
    have hx := r x (List.mem_cons_self ..)
    have ih := asc_len (a := x + 1) (b := b) h.2 fun y hy => by
      have := h.1 y hy
      have := r y (List.mem_cons_of_mem _ hy)
      omega
    rw [List.length_cons]
    omega
theorem alike_repr {d : D} (h : Shows d) : bltD .repr [d] = some (.c (.str (PySem.PyData.shown (toPy d)))) := by
  show reprD d = _
  unfold reprD
  rw [h.s, h.e, h.o, decide_eq_true h.w]
  rfl
theorem cmp_strSelf (x : PySem.Str) : cmpD .eq (.c (.str x)) (.c (.str x)) = some true := by
  show eqD? _ _ = _
  unfold eqD? eqS
  split
  · simp [eqD]
  · simp
theorem cmp_self {d : D} (h : Shows d) : cmpD .eq d d = some true := by
  show eqD? d d = _
  unfold eqD?
  have e := h.e
  rw [e]
  have p : plnD d = true := by
    unfold eqOk at e
    simp at e
    exact e.1.1
  simp [eqD_refl d p]
theorem Smalls.eqOk {t w : Nat} {ds : List D} (h : Smalls t w ds) (ht : t ≤ 63) : eqOk (.lst ds) = true := by
  have q := Small.lst h
  unfold Rf.eqOk
  rw [q.p, q.g, decide_eq_true (Nat.le_trans q.t (by omega))]
  rfl
theorem ne_nil {ds : List D} (h : Rf.eqOk (.lst ds) = true) : cmpD .ne (.lst ds) (.lst []) = some (!ds.isEmpty) := by
  show (eqD? _ _).map _ = _
  unfold eqD?
  rw [h, show Rf.eqOk (.lst []) = true from by decide]
  cases ds with
  | nil => simp [eqD, eqDs]
  | cons d ds => simp [eqD, eqDs]
end Rf

set_option Elab.async false
set_option maxRecDepth 100000
set_option maxHeartbeats 1000000
/-! Rf, part Y: the evaluator's equations as rewritings; one statement at a time. -/
namespace Rf
section
variable {G : Nat → Option D} {F : Cl} {sub : Nat → Nat → Bool} {σ : Env} {S : Store}
@[simp] theorem ev_var {i : Nat} : ev G F (.var i) σ S = (match σ[i]? with | some (some d) => .ok d S | _ => .bad) := rfl
@[simp] theorem ev_cst {k : Cst} : ev G F (.cst k) σ S = .ok (.c k) S := rfl
@[simp] theorem ev_glb {g : Nat} : ev G F (.glb g) σ S = lift (G g) S := rfl
@[simp] theorem ev_fnv {f : Nat} : ev G F (.fnv f) σ S = .ok (.fn f) S := rfl
@[simp] theorem ev_bin {op : BOp} {a b : Tm} : ev G F (.bin op a b) σ S = (ev G F a σ S).bind fun x S => (ev G F b σ S).bind fun y S => lift (binD op x y) S := rfl
@[simp] theorem ev_neg {a : Tm} : ev G F (.neg a) σ S = (ev G F a σ S).bind fun x S => (match x with | .c (.int i) => .ok (.int (-i)) S | _ => .bad) := rfl
@[simp] theorem ev_not {a : Tm} : ev G F (.not a) σ S = (ev G F a σ S).bind fun x S => (match x with | .c (.bl b) => .ok (.bl (!b)) S | _ => .bad) := rfl
@[simp] theorem ev_cmp {op : COp} {a b : Tm} : ev G F (.cmp op a b) σ S = (ev G F a σ S).bind fun x S => (ev G F b σ S).bind fun y S => lift ((cmpD op (see S x) (see S y)).map .bl) S := rfl
@[simp] theorem ev_cmp2 {op op' : COp} {a b e : Tm} : ev G F (.cmp2 op op' a b e) σ S = (ev G F a σ S).bind fun x S => (ev G F b σ S).bind fun y S => (match cmpD op (see S x) (see S y) with
    | some true => (ev G F e σ S).bind fun z S => lift ((cmpD op' (see S y) (see S z)).map .bl) S
    | some false => .ok (.bl false) S
    | none => .bad) := rfl
@[simp] theorem ev_and {a b : Tm} : ev G F (.and a b) σ S = (ev G F a σ S).bind fun x S => (match x with | .c (.bl true) => ev G F b σ S | .c (.bl false) => .ok (.bl false) S | _ => .bad) := rfl
@[simp] theorem ev_or {a b : Tm} : ev G F (.or a b) σ S = (ev G F a σ S).bind fun x S => (match x with | .c (.bl true) => .ok (.bl true) S | .c (.bl false) => ev G F b σ S | _ => .bad) := rfl
@[simp] theorem ev_ite {t a b : Tm} : ev G F (.ite t a b) σ S = (ev G F t σ S).bind fun x S => (match x with | .c (.bl true) => ev G F a σ S | .c (.bl false) => ev G F b σ S | _ => .bad) := rfl
@[simp] theorem ev_call {f : Nat} {as : Tms} : ev G F (.call f as) σ S = (evs G F as σ S).bind fun ds S => trim S.length (F f ds S) := rfl
@[simp] theorem ev_callk {f : Nat} {as : Tms} : ev G F (.callk f as) σ S = (evs G F as σ S).bind fun ds S => F f ds S := rfl
@[simp] theorem ev_callv {i : Nat} {as : Tms} : ev G F (.callv i as) σ S = (match σ[i]? with | some (some (.fn f)) => (evs G F as σ S).bind fun ds S => trim S.length (F f ds S) | _ => .bad) := rfl
@[simp] theorem ev_blt {b : Blt} {as : Tms} : ev G F (.blt b as) σ S = (evs G F as σ S).bind fun ds S => lift (bltD b (ds.map (see S))) S := rfl
@[simp] theorem ev_isi {a : Tm} {n : String} : ev G F (.isi a n) σ S = (ev G F a σ S).bind fun x S => lift ((isiD x n).map .bl) S := rfl
@[simp] theorem ev_mth {m : Mth} {o : Tm} {as : Tms} : ev G F (.mth m o as) σ S = (ev G F o σ S).bind fun x S => if mthOk m x S then (evs G F as σ S).bind fun ds S => mthD m x ds S else .bad := rfl
@[simp] theorem ev_dget {o k z : Tm} : ev G F (.dget o k z) σ S = (ev G F o σ S).bind fun x S => if (dctAt S x).isSome then (ev G F k σ S).bind fun y S => (ev G F z σ S).bind fun z S => lift (getD2 x y z S) S else .bad := rfl
@[simp] theorem ev_skey {o : Tm} : ev G F (.skey o) σ S = (ev G F o σ S).bind fun x S => lift (skeyD x S) S := rfl
@[simp] theorem ev_idx {a i : Tm} : ev G F (.idx a i) σ S = (ev G F a σ S).bind fun x S => (ev G F i σ S).bind fun y S => lift (idxD x y S) S := rfl
@[simp] theorem ev_slc {a : Tm} {lo hi : Tms} : ev G F (.slc a lo hi) σ S = (ev G F a σ S).bind fun x S => (evs G F lo σ S).bind fun y S => if (bnds y).isSome then (evs G F hi σ S).bind fun z S => lift (slcP x y z S) S else .bad := rfl
@[simp] theorem ev_tup {as : Tms} : ev G F (.tup as) σ S = (evs G F as σ S).bind fun ds S => .ok (.tup ds) S := rfl
@[simp] theorem ev_lst {as : Tms} : ev G F (.lst as) σ S = (evs G F as σ S).bind fun ds S => .ok (.lst ds) S := rfl
@[simp] theorem ev_new {as : Tms} : ev G F (.new as) σ S = (evs G F as σ S).bind fun ds S => .ok (.ref S.length) (S ++ [.lst ds]) := rfl
@[simp] theorem ev_newd : ev G F .newd σ S = .ok (.ref S.length) (S ++ [.dct []]) := rfl
@[simp] theorem ev_rgl {tp : Bool} {a : Tm} : ev G F (.rgl tp a) σ S = (ev G F a σ S).bind fun d S => lift ((rglD d).map fun xs => if tp then .tup xs else .lst xs) S := rfl
@[simp] theorem ev_pop {o : Tm} : ev G F (.pop o) σ S = (ev G F o σ S).bind fun x S => popD x S := rfl
@[simp] theorem ev_rev {a : Tm} : ev G F (.rev a) σ S = (ev G F a σ S).bind fun x S => lift (revD (see S x)) S := rfl
@[simp] theorem ev_sum2 {a : Tm} : ev G F (.sum2 a) σ S = (ev G F a σ S).bind fun x S => lift (sum2D (see S x)) S := rfl
@[simp] theorem ev_smth {b : Bool} {o a : Tm} : ev G F (.smth b o a) σ S = (ev G F o σ S).bind fun x S => if isStrD x then (ev G F a σ S).bind fun y S => lift (smthD b x (see S y)) S else .bad := rfl
@[simp] theorem ev_sset {a : Tm} : ev G F (.sset a) σ S = (ev G F a σ S).bind fun x S => lift (ssetD (see S x)) S := rfl
@[simp] theorem ev_dlx {kvs : List (Int × Cst)} {i : Tm} : ev G F (.dlx kvs i) σ S = (ev G F i σ S).bind fun y S => lift (dlxD kvs y) S := rfl
@[simp] theorem ev_varw {i : Nat} : ev G F (.varw i) σ S = (match σ[i]? with | some (some (.ptup xs)) => .ok (.tup xs) S | some (some d) => .ok d S | _ => .bad) := rfl
@[simp] theorem ev_tupp {a : Tm} : ev G F (.tupp a) σ S = (ev G F a σ S).bind fun x S => lift (tuppD (see S x)) S := rfl
@[simp] theorem ev_tix {i : Nat} {a : Tm} : ev G F (.tix i a) σ S = (match σ[i]? with | some (some (.ptup xs)) => (ev G F a σ S).bind fun y S => lift (tixD xs y) S | _ => .bad) := rfl
@[simp] theorem ev_edct : ev G F .edct σ S = .ok .edc S := rfl
@[simp] theorem ev_lkeys {o : Tm} : ev G F (.lkeys o) σ S = (ev G F o σ S).bind fun x S => lift ((dctAt S x).map fun q => .lst (q.2.map fun kv => kyD kv.1)) S := rfl
@[simp] theorem ev_newc {a : Tm} : ev G F (.newc a) σ S = (ev G F a σ S).bind fun x S => (match see S x with
    | .tup xs => .ok (.ref S.length) (S ++ [.lst xs])
    | .lst xs => .ok (.ref S.length) (S ++ [.lst xs])
    | _ => .bad) := rfl
/-- a comprehension's turn -/
def cturn (G : Nat → Option D) (F : Cl) (e : Tm) (own : List Nat) (tg : Tg) (ifs : Tms) (σ : Env) (x : D) (S : Store) : Res (Option D) := match asg tg x (clr σ own) with
  | none => .bad
  | some σ' => (evt G F ifs σ' S).bind fun b S => if b then (ev G F e σ' S).bind fun y S => .ok (some y) S else .ok none S
@[simp] theorem ev_comp {e : Tm} {own : List Nat} {tg : Tg} {s : Sr} {ifs : Tms} : ev G F (.comp e own tg s ifs) σ S = (evi G F s σ S).bind fun its S => (turns (cturn G F e own tg ifs σ) its S).bind fun ys S => .ok (.lst ys) S := rfl
@[simp] theorem evs_nil : evs G F .nil σ S = .ok [] S := rfl
@[simp] theorem evs_cons {a : Tm} {r : Tms} : evs G F (.cons a r) σ S = (ev G F a σ S).bind fun x S => (evs G F r σ S).bind fun xs S => .ok (x :: xs) S := rfl
@[simp] theorem evt_nil : evt G F .nil σ S = .ok true S := rfl
@[simp] theorem evt_cons {a : Tm} {r : Tms} : evt G F (.cons a r) σ S = (ev G F a σ S).bind fun x S => (match x with | .c (.bl true) => evt G F r σ S | .c (.bl false) => .ok false S | _ => .bad) := rfl
@[simp] theorem evi_seq {a : Tm} : evi G F (.seq a) σ S = (ev G F a σ S).bind fun x S => lift (itemsOf x) S := rfl
@[simp] theorem evi_enum {as : Tms} : evi G F (.enum as) σ S = (evs G F as σ S).bind fun ds S => lift (enumI ds) S := rfl
@[simp] theorem evi_zip {as : Tms} : evi G F (.zip as) σ S = (evs G F as σ S).bind fun ds S => lift (zipI ds) S := rfl
@[simp] theorem evi_rng {as : Tms} : evi G F (.rng as) σ S = (evs G F as σ S).bind fun ds S => lift (rngI ds) S := rfl
@[simp] theorem ex_set {tg : Tg} {t : Tm} : exec G F sub (.set tg t) σ S = (ev G F t σ S).out σ fun d S => match asg tg d σ with | some σ' => .nx σ' S | none => .bad := rfl
@[simp] theorem ex_par {is : List Nat} {ts : Tms} : exec G F sub (.par is ts) σ S = (evs G F ts σ S).out σ fun ds S => match setAll is ds σ with | some σ' => .nx σ' S | none => .bad := rfl
@[simp] theorem ex_setIx {o i t : Tm} : exec G F sub (.setIx o i t) σ S = (ev G F t σ S).out σ fun v S => (ev G F o σ S).out σ fun x S => (ev G F i σ S).out σ fun y S => match putIx x y v S with | some S => .nx σ S | none => .bad := rfl
@[simp] theorem ex_swp {o i p j t : Tm} : exec G F sub (.swp o i p j t) σ S = (ev G F t σ S).out σ fun d S => (match d with
    | .tup [a, b] => (ev G F o σ S).out σ fun u S => (ev G F i σ S).out σ fun v S => (match putIx u v a S with
      | some S => (ev G F p σ S).out σ fun u S => (ev G F j σ S).out σ fun v S => (match putIx u v b S with
        | some S => .nx σ S
        | none => .bad)
      | none => .bad)
    | _ => .bad) := rfl
@[simp] theorem ex_aug {i : Nat} {op : BOp} {t : Tm} : exec G F sub (.aug i op t) σ S = (match σ[i]? with
    | some (some x) => (ev G F t σ S).out σ fun y S => match augI op x y with
      | some d => .nx (σ.set i (some d)) S
      | none => .bad
    | _ => .bad) := rfl
@[simp] theorem ex_augIx {o i : Tm} {op : BOp} {t : Tm} : exec G F sub (.augIx o i op t) σ S = (ev G F o σ S).out σ fun x S => (ev G F i σ S).out σ fun y S => match getA x y S with
    | some z => (ev G F t σ S).out σ fun v S => match augI op z v with
      | some d => (match putIx x y d S with
        | some S => .nx σ S
        | none => .bad)
      | none => .bad
    | none => .bad := rfl
@[simp] theorem ex_expr {t : Tm} : exec G F sub (.expr t) σ S = (ev G F t σ S).out σ fun _ S => .nx σ S := rfl
@[simp] theorem ex_ret {t : Tm} : exec G F sub (.ret t) σ S = (ev G F t σ S).out σ fun d S => .ret d S := rfl
@[simp] theorem ex_retN : exec G F sub .retN σ S = .ret .non S := rfl
@[simp] theorem ex_ife {t : Tm} {a b : Sts} : exec G F sub (.ife t a b) σ S = (ev G F t σ S).out σ fun x S => match x with
    | .c (.bl true) => execs G F sub a σ S
    | .c (.bl false) => execs G F sub b σ S
    | _ => .bad := rfl
@[simp] theorem ex_whil {t : Tm} {b : Sts} : exec G F sub (.whil t b) σ S = loop (ev G F t) (execs G F sub b) FUEL σ S := rfl
@[simp] theorem ex_for {tg : Tg} {s : Sr} {b : Sts} : exec G F sub (.for_ tg s b) σ S = (evi G F s σ S).out σ fun its S => forL tg (execs G F sub b) its σ S := rfl
@[simp] theorem ex_brk : exec G F sub .brk σ S = .brk σ S := rfl
@[simp] theorem ex_cont : exec G F sub .cont σ S = .cont σ S := rfl
@[simp] theorem ex_pass : exec G F sub .pass σ S = .nx σ S := rfl
@[simp] theorem ex_raise {c : Nat} {as : Tms} : exec G F sub (.raise c as) σ S = (evs G F as σ S).out σ fun ds S => .ex ⟨c, ds.reverse⟩ σ S := rfl
@[simp] theorem ex_tryo {b : Sts} {c : Nat} {h : Sts} : exec G F sub (.tryo b c h) σ S = (match execs G F sub b σ S with
    | .ex e σ' S' => if sub e.cls c then execs G F sub h σ' S' else .ex e σ' S'
    | o => o) := rfl
@[simp] theorem execs_nil : execs G F sub .nil σ S = .nx σ S := rfl
/-- what follows, folded -/
def rest (G : Nat → Option D) (F : Cl) (sub : Nat → Nat → Bool) (r : Sts) (σ : Env) (S : Store) : Out := execs G F sub r σ S
theorem rest_eq {r : Sts} : rest G F sub r σ S = execs G F sub r σ S := rfl
theorem step1 {a : St} {r : Sts} : execs G F sub (.cons a r) σ S = (exec G F sub a σ S).next fun σ S => rest G F sub r σ S := rfl
theorem step2 {a : St} {r : Sts} : rest G F sub (.cons a r) σ S = (exec G F sub a σ S).next fun σ S => rest G F sub r σ S := rfl
@[simp] theorem step0 {a : St} : execs G F sub (.cons a .nil) σ S = exec G F sub a σ S := by
  rw [step1]
  cases exec G F sub a σ S <;> rfl
@[simp] theorem rest_nil : rest G F sub .nil σ S = .nx σ S := rfl
@[simp] theorem asg_nm {i : Nat} {d : D} : asg (.nm i) d σ = if i < σ.length then some (σ.set i (some d)) else none := rfl
@[simp] theorem asg_tp {ts : Tgs} {ds : List D} : asg (.tp ts) (.tup ds) σ = asgs ts ds σ := rfl
@[simp] theorem asg_tl {ts : Tgs} {ds : List D} : asg (.tp ts) (.lst ds) σ = asgs ts ds σ := rfl
@[simp] theorem asgs_nil : asgs .nil [] σ = some σ := rfl
@[simp] theorem asgs_cons {t : Tg} {r : Tgs} {d : D} {ds : List D} : asgs (.cons t r) (d :: ds) σ = (asg t d σ).bind fun σ' => asgs r ds σ' := rfl
@[simp] theorem clr_nil : clr σ [] = σ := rfl
@[simp] theorem clr_cons {v : Nat} {vs : List Nat} : clr σ (v :: vs) = (clr σ vs).set v none := rfl
@[simp] theorem setAll_nil : setAll [] [] σ = some σ := rfl
@[simp] theorem setAll_cons {i : Nat} {is : List Nat} {d : D} {ds : List D} : setAll (i :: is) (d :: ds) σ = if i < σ.length then setAll is ds (σ.set i (some d)) else none := rfl
@[simp] theorem forL_nil {tg : Tg} {b : Env → Store → Out} : forL tg b [] σ S = .nx σ S := rfl
theorem forL_cons {tg : Tg} {b : Env → Store → Out} {x : D} {xs : List D} : forL tg b (x :: xs) σ S = (match asg tg x σ with
    | none => .bad
    | some σ' => (b σ' S).turn (forL tg b xs)) := rfl
end
/-- a loop that keeps a word -/
theorem forL_keep {tg : Tg} {b : Env → Store → Out} (P : Env → Store → Prop) : ∀ {xs : List D} {σ : Env} {S : Store}, P σ S → (∀ x ∈ xs, ∀ σ S, P σ S → ∃ σ1, asg tg x σ = some σ1 ∧ ∃ σ' S', (b σ1 S = .nx σ' S' ∨ b σ1 S = .cont σ' S') ∧ P σ' S') →
    ∃ σ' S', forL tg b xs σ S = .nx σ' S' ∧ P σ' S'
  | [], σ, S, h, _ => ⟨σ, S, rfl, h⟩
  | x :: xs, σ, S, h, st => by
    obtain ⟨σ1, e1, σ2, S2, e2, h2⟩ := st x (List.mem_cons_self ..) σ S h
    obtain ⟨σ3, S3, e3, h3⟩ := forL_keep P (xs := xs) h2 fun y hy => st y (List.mem_cons_of_mem _ hy)
    refine ⟨σ3, S3, ?_, h3⟩
    rw [forL_cons, e1]
    dsimp only
    rcases e2 with e2 | e2 <;> rw [e2] <;> exact e3
end Rf

set_option Elab.async false
set_option maxRecDepth 100000
set_option maxHeartbeats 1000000
/-! Rf, part Z: sums by their coefficients; values of any sort. -/
namespace Rf
/-- a def's end -/
def Out.res : Out → Res D
  | .ret v S => .ok v S
  | .nx _ S => .ok .non S
  | .ex e _ S => .ex e S
  | _ => .bad
@[simp] theorem res_ret (v : D) (S : Store) : (Out.ret v S).res = .ok v S := rfl
@[simp] theorem res_nx (σ : Env) (S : Store) : (Out.nx σ S).res = .ok .non S := rfl
@[simp] theorem res_ex (e : Ex) (σ : Env) (S : Store) : (Out.ex e σ S).res = .ex e S := rfl
theorem loop_succ {c : Env → Store → Res D} {b : Env → Store → Out} {n : Nat} {σ : Env} {S : Store} : loop c b (n + 1) σ S = (c σ S).out σ fun x S => (match x with
    | .c (.bl true) => (b σ S).turn (loop c b n)
    | .c (.bl false) => .nx σ S
    | _ => .bad) := rfl
theorem Law.run (l : Law) {k f : Nat} {d : Def} {ds : List D} {S : Store} {σ : Env} (hd : l.Tb.defs f = some d) (hl : ds.length = d.params) (hσ : start d.slots ds = σ) : l.call (k + 1) f ds S = (execs l.G (l.call k) l.sub d.body σ S).res := by
  rw [l.call_eq hd hl, hσ]
  cases execs l.G (l.call k) l.sub d.body σ S <;> rfl
theorem zip_maps {α : Type} (e : α → D) : ∀ xs ys : List α, zipD (xs.map e) (ys.map e) = (xs.zip ys).map fun q => .tup [e q.1, e q.2]
  | [], _ => rfl
  | _ :: _, [] => rfl
  | x :: xs, y :: ys => by
    rw [List.map_cons, List.map_cons, List.zip_cons_cons, List.map_cons]
    unfold zipD
    rw [zip_maps e xs ys]
theorem asc_zip {α : Type} {r : α → α → Prop} : ∀ {xs : List α}, xs.Pairwise r → ∀ q ∈ xs.zip xs.tail, r q.1 q.2
  | [], _, q, hq => by cases hq
  | [a], _, q, hq => by simp at hq
  | a :: b :: t, h, q, hq => by
    rw [List.pairwise_cons] at h
    rcases List.mem_cons.mp (show q ∈ (a, b) :: (b :: t).zip t from hq) with rfl | hq
    · exact h.1 b (List.mem_cons_self ..)
    · exact asc_zip h.2 q hq
theorem zip_tail {α : Type} (e : α → D) (xs : List α) : zipD (xs.map e) (cutD (xs.map e) (some 1) none) = (xs.zip xs.tail).map fun q => .tup [e q.1, e q.2] := by
  rw [cutD_from (by decide), ← List.map_drop, zip_maps]
  congr 2
  cases xs <;> rfl
/-! ### sums by their coefficients -/
def ind (w x : Int) : Int := if x = w then 1 else 0
/-- how often a wire stands in parts -/
def coef (ps : List (Int × Int)) (w : Int) : Int := sumAt (ind w) ps
theorem coef_append (a b : List (Int × Int)) (w : Int) : coef (a ++ b) w = coef a w + coef b w := sumAt_append _ a b
theorem coef_map (k : Int) (w : Int) : ∀ ps : List (Int × Int), coef (ps.map fun q => (q.1, k * q.2)) w = k * coef ps w
  | [] => by simp [coef, sumAt]
  | q :: ps => by
    have ih := coef_map k w ps
    unfold coef at ih ⊢
    rw [List.map_cons]
    simp only [sumAt, ih, Int.mul_add, Int.mul_assoc]
theorem coef_law {p : Int} (hp : 0 < p) (c : Int) (ps : List (Int × Int)) (w : Int) : coef (lawSum p c ps).2 w % p = coef ps w % p := by
  have h := lawSum_val hp 0 ps (ind w)
  unfold valS at h
  have e : (lawSum p 0 ps).2 = (lawSum p c ps).2 := rfl
  have z : (lawSum p 0 ps).1 = 0 := Int.zero_emod p
  rw [e, z, Int.zero_add, Int.zero_add] at h
  exact h
theorem coef_out {w : Int} : ∀ {l : List (Int × Int)}, (∀ q ∈ l, q.1 ≠ w) → coef l w = 0
  | [], _ => rfl
  | q :: l, h => by
    have ih := coef_out fun r hr => h r (List.mem_cons_of_mem _ hr)
    unfold coef at ih ⊢
    simp only [sumAt, ih, ind, if_neg (h q (List.mem_cons_self ..))]
    omega
theorem coef_in {w n : Int} : ∀ {l : List (Int × Int)}, (l.Pairwise fun a b => a.1 < b.1) → (w, n) ∈ l → coef l w = n
  | [], _, h => nomatch h
  | q :: l, a, h => by
    rw [List.pairwise_cons] at a
    rcases List.mem_cons.mp h with e | h
    · subst e
      have := coef_out (w := w) (l := l) fun r hr => by have := a.1 r hr; dsimp only at this; omega
      unfold coef at this ⊢
      simp only [sumAt, this, ind]
      simp
    · have ih := coef_in a.2 h
      have := a.1 _ h
      unfold coef at ih ⊢
      simp only [sumAt, ih, ind]
      dsimp only at this
      rw [if_neg (by omega)]
      omega
/-- ascending parts are told by their coefficients -/
theorem asc_coef {p : Int} : ∀ {a b : List (Int × Int)}, (a.Pairwise fun x y => x.1 < y.1) → (b.Pairwise fun x y => x.1 < y.1) → (∀ q ∈ a, 0 < q.2 ∧ q.2 < p) → (∀ q ∈ b, 0 < q.2 ∧ q.2 < p) → (∀ w, coef a w % p = coef b w % p) → a = b := by
  have sub : ∀ {a b : List (Int × Int)}, (a.Pairwise fun x y => x.1 < y.1) → (b.Pairwise fun x y => x.1 < y.1) → (∀ q ∈ a, 0 < q.2 ∧ q.2 < p) → (∀ q ∈ b, 0 < q.2 ∧ q.2 < p) → (∀ w, coef a w % p = coef b w % p) → ∀ q ∈ a, q ∈ b := by
    intro a b ha hb ra rb h q hq
    obtain ⟨w, n⟩ := q
    have e := h w
    obtain ⟨n0, n1⟩ := ra _ hq
    dsimp only at n0 n1
    rw [coef_in ha hq, Int.emod_eq_of_lt (by omega) n1] at e
    by_cases hw : ∃ m, (w, m) ∈ b
    · obtain ⟨m, hm⟩ := hw
      obtain ⟨m0, m1⟩ := rb _ hm
      dsimp only at m0 m1
      rw [coef_in hb hm, Int.emod_eq_of_lt (by omega) m1] at e
      rw [e]
      exact hm
    · rw [coef_out (w := w) (l := b) fun q hq z => hw ⟨q.2, by rw [← z]; exact hq⟩] at e
      simp at e
      omega
  intro a b ha hb ra rb h
  have m : ∀ q, q ∈ a ↔ q ∈ b := fun q => ⟨sub ha hb ra rb h q, sub hb ha rb ra (fun w => (h w).symm) q⟩
  have nd : ∀ {l : List (Int × Int)}, (l.Pairwise fun x y => x.1 < y.1) → l.Nodup := fun h => h.imp fun {x y} z e => by rw [e] at z; exact Int.lt_irrefl _ z
  have pm : a.Perm b := (List.perm_ext_iff_of_nodup (nd ha) (nd hb)).mpr m
  refine pm.eq_of_pairwise (le := fun x y => x.1 < y.1 ∨ x = y) (fun x y _ _ h1 h2 => ?_) (ha.imp .inl) (hb.imp .inl)
  rcases h1 with h1 | h1
  · rcases h2 with h2 | h2
    · omega
    · exact h2.symm
  · exact h1
/-- when two sums are the same -/
theorem law_eq {p c d : Int} (hp : 0 < p) {ps qs : List (Int × Int)} (hc : c % p = d % p) (h : ∀ w, coef ps w % p = coef qs w % p) : lawSum p c ps = lawSum p d qs := by
  have e : (lawSum p c ps).2 = (lawSum p d qs).2 := asc_coef (lawSum_asc hp) (lawSum_asc hp) (fun q hq => ⟨(lawSum_mem hp hq).1, (lawSum_mem hp hq).2.1⟩) (fun q hq => ⟨(lawSum_mem hp hq).1, (lawSum_mem hp hq).2.1⟩)
    fun w => by rw [coef_law hp, coef_law hp]; exact h w
  exact Prod.ext hc e
/-- a good sum is the sum of its parts -/
theorem law_self {p : Int} {s : Int × List (Int × Int)} (hp : 0 < p) (hc : 0 ≤ s.1 ∧ s.1 < p) (asc : s.2.Pairwise fun a b => a.1 < b.1) (h : ∀ q ∈ s.2, 0 < q.2 ∧ q.2 < p) : lawSum p s.1 s.2 = s := by
  have e : (lawSum p s.1 s.2).2 = s.2 := asc_coef (lawSum_asc hp) asc (fun q hq => ⟨(lawSum_mem hp hq).1, (lawSum_mem hp hq).2.1⟩) h fun w => coef_law hp _ _ w
  exact Prod.ext (Int.emod_eq_of_lt hc.1 hc.2) e
theorem coef_mod {p k : Int} {a b : Int} (h : a % p = b % p) : (k * a) % p = (k * b) % p := by rw [Int.mul_emod, h, ← Int.mul_emod]
theorem add_mod {p a b c d : Int} (h : a % p = b % p) (h2 : c % p = d % p) : (a + c) % p = (b + d) % p := by rw [Int.add_emod, h, h2, ← Int.add_emod]
/-! ### values of any sort -/
mutual
/-- a value of any sort: no names, no great numbers, tuples of few -/
def thD : D → Bool
  | .c (.int i) => decide (-(10 ^ 28) < i) && decide (i < 10 ^ 28)
  | .c _ => true
  | .tup xs => decide (xs.length ≤ 2000) && thDs xs
  | .lst _ => true
  | .edc => true
  | _ => false
def thDs : List D → Bool
  | [] => true
  | x :: xs => thD x && thDs xs
end
theorem thDs_all : ∀ {xs : List D}, thDs xs = true ↔ ∀ x ∈ xs, thD x = true
  | [] => by simp [thDs]
  | x :: xs => by simp [thDs, thDs_all (xs := xs)]
theorem thD_tup {xs : List D} : thD (.tup xs) = true ↔ xs.length ≤ 2000 ∧ ∀ x ∈ xs, thD x = true := by
  rw [thD, Bool.and_eq_true, decide_eq_true_eq, thDs_all]
def numB : D → Bool
  | .c (.int _) => true
  | _ => false
def idxB : D → Bool
  | .c (.int i) => decide (0 ≤ i)
  | _ => false
def tupB : D → Bool
  | .tup _ => true
  | _ => false
theorem isi_tup {d : D} (h : thD d = true) : isiD d "tuple" = some (tupB d) := by
  cases d with
  | c k => cases k <;> rfl
  | tup => rfl
  | lst => rfl
  | edc => rfl
  | _ => simp [thD] at h
/-- parts: numbers from 0 on -/
def toPart : D → Option (Int × Int)
  | .tup [.c (.int w), .c (.int n)] => if 0 ≤ w ∧ 0 ≤ n then some (w, n) else none
  | _ => none
def toParts : List D → Option (List (Int × Int))
  | [] => some []
  | d :: r => (toPart d).bind fun q => (toParts r).map (q :: ·)
def toS : D → Option (Int × List (Int × Int))
  | .tup [.c (.int c), .tup ps] => if 0 ≤ c then (toParts ps).map fun qs => (c, qs) else none
  | _ => none
theorem toPart_some {d : D} {q : Int × Int} (h : toPart d = some q) : d = dPart q ∧ 0 ≤ q.1 ∧ 0 ≤ q.2 := by
  unfold toPart at h
  split at h
  · split at h <;> cases h
    rename_i hh
    exact ⟨rfl, hh⟩
  · cases h
theorem toParts_some : ∀ {ds : List D} {qs : List (Int × Int)}, toParts ds = some qs → ds = qs.map dPart ∧ ∀ q ∈ qs, 0 ≤ q.1 ∧ 0 ≤ q.2
  | [], qs, h => by cases h; exact ⟨rfl, fun q hq => nomatch hq⟩
  | d :: r, qs, h => by
    obtain ⟨q, h1, h2⟩ := Option.bind_eq_some_iff.mp h
    obtain ⟨rs, h3, rfl⟩ := Option.map_eq_some_iff.mp h2
    obtain ⟨rfl, a⟩ := toPart_some h1
    obtain ⟨rfl, b⟩ := toParts_some h3
    refine ⟨rfl, fun x hx => ?_⟩
    rcases List.mem_cons.mp hx with rfl | hx
    · exact a
    · exact b x hx
theorem toS_some {d : D} {s : Int × List (Int × Int)} (h : toS d = some s) : d = dSum s ∧ 0 ≤ s.1 ∧ ∀ q ∈ s.2, 0 ≤ q.1 ∧ 0 ≤ q.2 := by
  unfold toS at h
  split at h
  · split at h
    · rename_i hc
      obtain ⟨qs, h1, rfl⟩ := Option.map_eq_some_iff.mp h
      obtain ⟨rfl, a⟩ := toParts_some h1
      exact ⟨rfl, hc, a⟩
    · cases h
  · cases h
theorem toParts_map : ∀ {qs : List (Int × Int)}, (∀ q ∈ qs, 0 ≤ q.1 ∧ 0 ≤ q.2) → toParts (qs.map dPart) = some qs
  | [], _ => rfl
  | q :: qs, h => by
    have one : toPart (dPart q) = some q := if_pos (h q (List.mem_cons_self ..))
    show (toPart (dPart q)).bind _ = _
    rw [one, Option.bind_some, toParts_map fun r hr => h r (List.mem_cons_of_mem _ hr)]
    rfl
theorem toS_sum {s : Int × List (Int × Int)} (hc : 0 ≤ s.1) (h : ∀ q ∈ s.2, 0 ≤ q.1 ∧ 0 ≤ q.2) : toS (dSum s) = some s := by
  show (if 0 ≤ s.1 then _ else _) = _
  rw [if_pos hc, toParts_map h]
  rfl
/-- ascending wires -/
def ascB (qs : List (Int × Int)) : Bool := (qs.zip qs.tail).all fun q => decide (q.1.1 < q.2.1)
theorem ascB_iff : ∀ {qs : List (Int × Int)}, ascB qs = true ↔ qs.Pairwise fun a b => a.1 < b.1
  | [] => by simp [ascB]
  | [a] => by simp [ascB]
  | a :: b :: r => by
    have ih := ascB_iff (qs := b :: r)
    have e : ascB (a :: b :: r) = (decide (a.1 < b.1) && ascB (b :: r)) := by simp [ascB]
    rw [e, Bool.and_eq_true, decide_eq_true_eq, ih]
    constructor
    · rintro ⟨h1, h⟩
      refine List.pairwise_cons.mpr ⟨fun x hx => ?_, h⟩
      rcases List.mem_cons.mp hx with rfl | hx
      · exact h1
      · exact Int.lt_trans h1 ((List.pairwise_cons.mp h).1 x hx)
    · intro h
      obtain ⟨h1, h⟩ := List.pairwise_cons.mp h
      exact ⟨h1 b (List.mem_cons_self ..), h⟩
/-- what is_sum says -/
def sumB (d : D) : Bool := match toS d with
  | some s => s.2.all (fun q => decide (0 < q.2)) && ascB s.2
  | none => false
/-- what is_sum_of says -/
def sumOfB (p : Int) (d : D) : Bool := match toS d with
  | some s => (s.2.all (fun q => decide (0 < q.2)) && ascB s.2) && (decide (s.1 < p) && s.2.all fun q => decide (q.2 < p))
  | none => false
theorem sumOfB_iff {p : Int} {d : D} : sumOfB p d = true ↔ ∃ s : Int × List (Int × Int), d = dSum s ∧ (0 ≤ s.1 ∧ s.1 < p) ∧ (s.2.Pairwise fun a b => a.1 < b.1) ∧ ∀ q ∈ s.2, 0 ≤ q.1 ∧ 0 < q.2 ∧ q.2 < p := by
  unfold sumOfB
  constructor
  · intro h
    split at h
    · rename_i s hs
      obtain ⟨rfl, hc, hq⟩ := toS_some hs
      simp only [Bool.and_eq_true, List.all_eq_true, decide_eq_true_eq] at h
      exact ⟨s, rfl, ⟨hc, h.2.1⟩, ascB_iff.mp h.1.2, fun q hm => ⟨(hq q hm).1, h.1.1 q hm, h.2.2 q hm⟩⟩
    · cases h
  · rintro ⟨s, rfl, hc, ha, hq⟩
    rw [toS_sum hc.1 fun q hm => ⟨(hq q hm).1, by have := (hq q hm).2.1; omega⟩]
    simp only [Bool.and_eq_true, List.all_eq_true, decide_eq_true_eq]
    exact ⟨⟨fun q hm => (hq q hm).2.1, ascB_iff.mpr ha⟩, hc.2, fun q hm => (hq q hm).2.2⟩
end Rf

set_option Elab.async false
set_option maxRecDepth 100000
set_option maxHeartbeats 4000000
namespace Lk53
open PySem PySem.Spec PyProof.Rows L2 Rf
def top (i : Nat) : Stmt := PySem.Challenge.pw_fixwright_k53_networks_that_put_rows_in.main.body.getD i (.Pass ⟨0, 0, 0, 0⟩)
def b0 : Sts := (.cons (.ret (.and (.isi (.var 0) "int") (.not (.isi (.var 0) "bool")))) .nil)
def b1 : Sts := (.cons (.ret (.and (.call 0 (.cons (.var 0) .nil)) (.cmp .ge (.var 0) (.cst (.int 0))))) .nil)
def b2 : Sts := (.cons (.ret (.and (.isi (.var 0) "tuple") (.cmp .eq (.blt .len (.cons (.var 0) .nil)) (.var 1)))) .nil)
def b3 : Sts := (.cons (.ret (.and (.isi (.var 0) "tuple") (.blt .all (.cons (.comp (.callv 1 (.cons (.var 2) .nil)) [2] (.nm 2) (.seq (.var 0)) .nil) .nil)))) .nil)
def b4 : Sts := (.cons (.ife (.or (.not (.call 0 (.cons (.var 0) .nil))) (.cmp .lt (.var 0) (.cst (.int 1)))) (.cons (.raise 0 .nil) .nil) .nil) (.cons (.ife (.cmp .gt (.var 0) (.glb 0)) (.cons (.raise 1 (.cons (.cst (.str "places")) (.cons (.glb 0) .nil))) .nil) .nil) .nil))
def b5l0 : Sts := (.cons (.ife (.cmp .eq (.bin .div (.var 5) (.bin .mul (.cst (.int 2)) (.var 1))) (.bin .div (.bin .add (.var 5) (.var 2)) (.bin .mul (.cst (.int 2)) (.var 1)))) (.cons (.expr (.mth .append (.var 3) (.cons (.tup (.cons (.var 5) (.cons (.bin .add (.var 5) (.var 2)) .nil))) .nil))) .nil) .nil) .nil)
def b5l1 : Sts := (.cons (.for_ (.nm 5) (.rng (.cons (.var 4) (.cons (.bin .add (.var 4) (.blt .min (.cons (.var 2) (.cons (.bin .sub (.bin .sub (.var 0) (.var 4)) (.var 2)) .nil)))) .nil))) b5l0) .nil)
def b5 : Sts := (.cons (.set (.nm 3) (.new .nil)) (.cons (.for_ (.nm 4) (.rng (.cons (.bin .mod (.var 2) (.var 1)) (.cons (.bin .sub (.var 0) (.var 2)) (.cons (.bin .mul (.cst (.int 2)) (.var 2)) .nil)))) b5l1) (.cons (.ret (.var 3)) .nil)))
def b6l0 : Sts := (.cons (.expr (.mth .extend (.var 1) (.cons (.call 5 (.cons (.var 0) (.cons (.var 2) (.cons (.var 3) .nil)))) .nil))) (.cons (.set (.nm 3) (.bin .div (.var 3) (.cst (.int 2)))) .nil))
def b6l1 : Sts := (.cons (.set (.nm 3) (.var 2)) (.cons (.whil (.cmp .ge (.var 3) (.cst (.int 1))) b6l0) (.cons (.set (.nm 2) (.bin .mul (.cst (.int 2)) (.var 2))) .nil)))
def b6 : Sts := (.cons (.expr (.call 4 (.cons (.var 0) .nil))) (.cons (.par [1, 2] (.cons (.new .nil) (.cons (.cst (.int 1)) .nil))) (.cons (.whil (.cmp .lt (.var 2) (.var 0)) b6l1) (.cons (.ret (.blt .tuple (.cons (.var 1) .nil))) .nil))))
def b7 : Sts := (.cons (.ret (.and (.call 2 (.cons (.var 1) (.cons (.cst (.int 2)) .nil))) (.and (.call 3 (.cons (.var 1) (.cons (.fnv 1) .nil))) (.cmp2 .lt .lt (.idx (.var 1) (.cst (.int 0))) (.idx (.var 1) (.cst (.int 1))) (.var 0))))) .nil)
def b8 : Sts := (.cons (.expr (.call 4 (.cons (.var 0) .nil))) (.cons (.ret (.and (.isi (.var 1) "tuple") (.blt .all (.cons (.comp (.call 7 (.cons (.var 0) (.cons (.var 2) .nil))) [2] (.nm 2) (.seq (.var 1)) .nil) .nil)))) .nil))
def b9 : Sts := (.cons (.ife (.not (.call 8 (.cons (.var 0) (.cons (.var 1) .nil)))) (.cons (.raise 0 .nil) .nil) .nil) .nil)
def b10 : Sts := (.cons (.set (.tp (.cons (.nm 2) (.cons (.nm 3) .nil))) (.var 1)) (.cons (.set (.nm 4) (.newc (.var 0))) (.cons (.swp (.var 4) (.var 2) (.var 4) (.var 3) (.tup (.cons (.idx (.var 0) (.var 3)) (.cons (.idx (.var 0) (.var 2)) .nil)))) (.cons (.ret (.blt .tuple (.cons (.var 4) .nil))) .nil))))
def b11l0 : Sts := (.cons (.set (.nm 0) (.ite (.cmp .eq (.var 3) (.cst (.int 1))) (.call 10 (.cons (.var 0) (.cons (.var 4) .nil))) (.var 0))) .nil)
def b11 : Sts := (.cons (.ife (.not (.isi (.var 0) "tuple")) (.cons (.raise 0 .nil) .nil) .nil) (.cons (.expr (.call 9 (.cons (.blt .len (.cons (.var 0) .nil)) (.cons (.var 1) .nil)))) (.cons (.ife (.or (.not (.call 2 (.cons (.var 2) (.cons (.blt .len (.cons (.var 1) .nil)) .nil)))) (.not (.blt .all (.cons (.comp (.and (.call 0 (.cons (.var 3) .nil)) (.cmp2 .le .le (.cst (.int 0)) (.var 3) (.cst (.int 1)))) [3] (.nm 3) (.seq (.var 2)) .nil) .nil)))) (.cons (.raise 0 .nil) .nil) .nil) (.cons (.for_ (.tp (.cons (.nm 4) (.cons (.nm 3) .nil))) (.zip (.cons (.var 1) (.cons (.var 2) .nil))) b11l0) (.cons (.ret (.var 0)) .nil)))))
def b12l0 : Sts := (.cons (.expr (.mth .append (.var 2) (.cons (.blt .int (.cons (.cmp .gt (.idx (.var 0) (.idx (.var 3) (.cst (.int 0)))) (.idx (.var 0) (.idx (.var 3) (.cst (.int 1))))) .nil)) .nil))) (.cons (.set (.nm 0) (.ite (.cmp .eq (.idx (.var 2) (.neg (.cst (.int 1)))) (.cst (.int 1))) (.call 10 (.cons (.var 0) (.cons (.var 3) .nil))) (.var 0))) .nil))
def b12 : Sts := (.cons (.ife (.not (.call 3 (.cons (.var 0) (.cons (.fnv 0) .nil)))) (.cons (.raise 0 .nil) .nil) .nil) (.cons (.expr (.call 9 (.cons (.blt .len (.cons (.var 0) .nil)) (.cons (.var 1) .nil)))) (.cons (.set (.nm 2) (.new .nil)) (.cons (.for_ (.nm 3) (.seq (.var 1)) b12l0) (.cons (.ret (.blt .tuple (.cons (.var 2) .nil))) .nil)))))
def b13 : Sts := (.cons (.ife (.or (.not (.call 3 (.cons (.varw 0) (.cons (.fnv 1) .nil)))) (.cmp .ne (.blt .sorted (.cons (.varw 0) .nil)) (.rgl false (.blt .len (.cons (.varw 0) .nil))))) (.cons (.raise 0 .nil) .nil) .nil) (.cons (.set (.nm 2) (.blt .tuple (.cons (.comp (.tix 0 (.var 3)) [3] (.nm 3) (.rng (.cons (.blt .len (.cons (.varw 0) .nil)) .nil)) .nil) .nil))) (.cons (.set (.nm 4) (.call 12 (.cons (.var 2) (.cons (.var 1) .nil)))) (.cons (.ret (.ite (.cmp .eq (.call 11 (.cons (.var 2) (.cons (.var 1) (.cons (.var 4) .nil)))) (.rgl true (.blt .len (.cons (.varw 0) .nil)))) (.var 4) (.cst .non))) .nil))))
def b14l0 : Sts := (.cons (.set (.nm 1) (.bin .add (.comp (.bin .add (.var 3) (.tup (.cons (.cst (.int 0)) .nil))) [3] (.nm 3) (.seq (.var 1)) .nil) (.comp (.bin .add (.var 3) (.tup (.cons (.cst (.int 1)) .nil))) [3] (.nm 3) (.seq (.var 1)) .nil))) .nil)
def b14 : Sts := (.cons (.set (.nm 1) (.lst (.cons (.tup .nil) .nil))) (.cons (.for_ (.nm 2) (.rng (.cons (.var 0) .nil)) b14l0) (.cons (.ret (.var 1)) .nil)))
def b15l0 : Sts := (.cons (.ife (.cmp .ne (.call 11 (.cons (.var 2) (.cons (.var 1) (.cons (.call 12 (.cons (.var 2) (.cons (.var 1) .nil))) .nil)))) (.blt .tuple (.cons (.blt .sorted (.cons (.var 2) .nil)) .nil))) (.cons (.ret (.cst (.bl false))) .nil) .nil) .nil)
def b15 : Sts := (.cons (.ife (.and (.call 0 (.cons (.var 0) .nil)) (.cmp .gt (.var 0) (.glb 1))) (.cons (.raise 1 (.cons (.cst (.str "places")) (.cons (.glb 1) .nil))) .nil) .nil) (.cons (.expr (.call 9 (.cons (.var 0) (.cons (.var 1) .nil)))) (.cons (.for_ (.nm 2) (.seq (.call 14 (.cons (.var 0) .nil))) b15l0) (.cons (.ret (.cst (.bl true))) .nil))))
def b16 : Sts := (.cons (.ret (.and (.isi (.var 0) "int") (.not (.isi (.var 0) "bool")))) .nil)
def b17 : Sts := (.cons (.ret (.and (.call 16 (.cons (.var 0) .nil)) (.cmp .ge (.var 0) (.cst (.int 0))))) .nil)
def b18 : Sts := (.cons (.ret (.new (.cons (.cst (.int 0)) (.cons (.cst (.int 1234567891)) (.cons (.cst (.int 0)) (.cons (.comp (.blt .abs (.cons (.var 1) .nil)) [1] (.nm 1) (.seq (.slc (.var 0) .nil (.cons (.cst (.int 63)) .nil))) .nil) .nil)))))) .nil)
def b19 : Sts := (.cons (.ife (.cmp .eq (.idx (.var 0) (.cst (.int 0))) (.cst (.int 0))) (.cons (.set (.nm 2) (.idx (.bin .add (.slc (.idx (.var 0) (.cst (.int 3))) (.cons (.idx (.var 0) (.cst (.int 2))) .nil) .nil) (.lst (.cons (.cst (.int 0)) .nil))) (.cst (.int 0)))) (.cons (.augIx (.var 0) (.cst (.int 2)) .add (.cst (.int 1))) (.cons (.ife (.cmp .ge (.var 2) (.bin .pow (.cst (.int 10)) (.cst (.int 18)))) (.cons (.setIx (.var 0) (.cst (.int 0)) (.var 2)) .nil) .nil) (.cons (.set (.nm 3) (.bin .add (.bin .add (.bin .mul (.idx (.var 0) (.cst (.int 1))) (.cst (.int 48271))) (.bin .mod (.blt .int (.cons (.var 2) .nil)) (.cst (.int 2147483647)))) (.bin .mul (.cst (.int 7919)) (.idx (.var 0) (.cst (.int 2)))))) (.cons (.setIx (.var 0) (.cst (.int 1)) (.bin .mod (.blt .int (.cons (.var 3) .nil)) (.cst (.int 2147483647)))) .nil))))) .nil) (.cons (.ife (.cmp .gt (.idx (.var 0) (.cst (.int 0))) (.cst (.int 0))) (.cons (.set (.nm 4) (.bin .mod (.blt .int (.cons (.idx (.var 0) (.cst (.int 0))) .nil)) (.var 1))) (.cons (.setIx (.var 0) (.cst (.int 0)) (.bin .div (.blt .int (.cons (.idx (.var 0) (.cst (.int 0))) .nil)) (.var 1))) (.cons (.ret (.var 4)) .nil))) .nil) (.cons (.set (.nm 5) (.bin .mod (.blt .int (.cons (.bin .mul (.bin .add (.idx (.var 0) (.cst (.int 1))) (.cst (.int 1))) (.cst (.int 39373))) .nil)) (.cst (.int 1000000007)))) (.cons (.set (.nm 6) (.bin .mod (.blt .int (.cons (.bin .mul (.bin .mod (.blt .int (.cons (.bin .mul (.var 5) (.var 5)) .nil)) (.cst (.int 998244353))) (.cst (.int 30011))) .nil)) (.cst (.int 998244353)))) (.cons (.ret (.bin .mod (.blt .int (.cons (.bin .div (.var 6) (.cst (.int 7))) .nil)) (.var 1))) .nil)))))
def b20 : Sts := (.cons (.ret (.and (.cmp .eq (.blt .repr (.cons (.var 0) .nil)) (.blt .repr (.cons (.var 1) .nil))) (.cmp .eq (.var 0) (.var 1)))) .nil)
def b21l0 : Sts := (.cons (.set (.nm 7) (.bin .sub (.var 6) (.bin .mod (.var 4) (.var 2)))) (.cons (.ife (.and (.cmp .ge (.var 7) (.cst (.int 0))) (.and (.cmp .eq (.bin .mod (.bin .div (.var 7) (.var 4)) (.cst (.int 2))) (.cst (.int 0))) (.cmp .eq (.bin .div (.var 6) (.bin .mul (.cst (.int 2)) (.var 2))) (.bin .div (.bin .add (.var 6) (.var 4)) (.bin .mul (.cst (.int 2)) (.var 2)))))) (.cons (.expr (.mth .append (.var 1) (.cons (.tup (.cons (.var 6) (.cons (.bin .add (.var 6) (.var 4)) .nil))) .nil))) .nil) .nil) .nil))
def b21l1 : Sts := (.cons (.for_ (.nm 6) (.rng (.cons (.ite (.cmp .lt (.var 2) (.var 0)) (.bin .sub (.var 0) (.var 4)) (.cst (.int 0))) .nil)) b21l0) (.cons (.set (.nm 4) (.bin .div (.var 4) (.cst (.int 2)))) .nil))
def b21l2 : Sts := (.cons (.set (.nm 4) (.var 2)) (.cons (.for_ (.nm 5) (.rng (.cons (.bin .add (.var 3) (.cst (.int 1))) .nil)) b21l1) (.cons (.set (.nm 2) (.bin .mul (.cst (.int 2)) (.var 2))) .nil)))
def b21 : Sts := (.cons (.par [1, 2] (.cons (.new .nil) (.cons (.cst (.int 1)) .nil))) (.cons (.for_ (.nm 3) (.rng (.cons (.cst (.int 5)) .nil)) b21l2) (.cons (.ret (.blt .tuple (.cons (.var 1) .nil))) .nil)))
def b22 : Sts := (.cons (.ret (.idx (.var 1) (.call 19 (.cons (.var 0) (.cons (.blt .len (.cons (.var 1) .nil)) .nil))))) .nil)
def b23 : Sts := (.cons (.set (.nm 3) (.call 19 (.cons (.var 0) (.cons (.cst (.int 5)) .nil)))) (.cons (.ife (.and (.cmp .gt (.var 2) (.cst (.int 0))) (.and (.isi (.var 1) "tuple") (.and (.cmp .ne (.var 1) (.tup .nil)) (.cmp .gt (.var 3) (.cst (.int 0)))))) (.cons (.set (.nm 4) (.call 19 (.cons (.var 0) (.cons (.blt .len (.cons (.var 1) .nil)) .nil)))) (.cons (.ife (.cmp .eq (.var 3) (.cst (.int 1))) (.cons (.ret (.bin .add (.slc (.var 1) .nil (.cons (.var 4) .nil)) (.slc (.var 1) (.cons (.bin .add (.var 4) (.cst (.int 1))) .nil) .nil))) .nil) .nil) (.cons (.ife (.cmp .eq (.var 3) (.cst (.int 2))) (.cons (.ret (.bin .add (.bin .add (.slc (.var 1) .nil (.cons (.var 4) .nil)) (.slc (.var 1) (.cons (.var 4) .nil) (.cons (.bin .add (.var 4) (.cst (.int 1))) .nil))) (.slc (.var 1) (.cons (.var 4) .nil) .nil))) .nil) .nil) (.cons (.ret (.bin .add (.bin .add (.slc (.var 1) .nil (.cons (.var 4) .nil)) (.tup (.cons (.call 23 (.cons (.var 0) (.cons (.idx (.var 1) (.var 4)) (.cons (.bin .sub (.var 2) (.cst (.int 1))) .nil)))) .nil))) (.slc (.var 1) (.cons (.bin .add (.var 4) (.cst (.int 1))) .nil) .nil))) .nil)))) .nil) (.cons (.ife (.and (.call 16 (.cons (.var 1) .nil)) (.cmp .gt (.var 3) (.cst (.int 0)))) (.cons (.ret (.bin .add (.var 1) (.call 22 (.cons (.var 0) (.cons (.lst (.cons (.cst (.int 1)) (.cons (.neg (.cst (.int 1))) (.cons (.cst (.int 2)) (.cons (.cst (.int 9)) .nil))))) .nil))))) .nil) .nil) (.cons (.ret (.call 22 (.cons (.var 0) (.cons (.lst (.cons (.cst .non) (.cons (.cst (.bl true)) (.cons (.cst (.str "")) (.cons (.cst (.str "a")) (.cons (.cst (.int 7)) (.cons (.neg (.cst (.int 1))) (.cons (.tup .nil) (.cons (.tup (.cons (.cst (.int 0)) .nil)) (.cons (.ite (.isi (.var 1) "tuple") (.blt .list (.cons (.var 1) .nil)) (.cst (.str "zz"))) .nil)))))))))) .nil)))) .nil))))
def b24l0 : Sts := (.cons (.expr (.mth .insert (.var 2) (.cons (.call 19 (.cons (.var 0) (.cons (.bin .add (.blt .len (.cons (.var 2) .nil)) (.cst (.int 1))) .nil))) (.cons (.var 3) .nil)))) .nil)
def b24 : Sts := (.cons (.set (.nm 2) (.new .nil)) (.cons (.for_ (.nm 3) (.seq (.var 1)) b24l0) (.cons (.ret (.var 2)) .nil)))
def b25l0 : Sts := (.cons (.ife (.cmp .eq (.var 4) (.cst (.int 1))) (.cons (.swp (.var 3) (.var 5) (.var 3) (.var 6) (.tup (.cons (.idx (.var 3) (.var 6)) (.cons (.idx (.var 3) (.var 5)) .nil)))) .nil) .nil) .nil)
def b25 : Sts := (.cons (.set (.nm 3) (.newc (.var 0))) (.cons (.for_ (.tp (.cons (.tp (.cons (.nm 5) (.cons (.nm 6) .nil))) (.cons (.nm 4) .nil))) (.zip (.cons (.var 1) (.cons (.var 2) .nil))) b25l0) (.cons (.ret (.blt .tuple (.cons (.var 3) .nil))) .nil)))
def b26l0 : Sts := (.cons (.expr (.mth .append (.var 2) (.cons (.ite (.cmp .gt (.idx (.var 3) (.var 4)) (.idx (.var 3) (.var 5))) (.cst (.int 1)) (.cst (.int 0))) .nil))) (.cons (.ife (.cmp .eq (.idx (.var 2) (.neg (.cst (.int 1)))) (.cst (.int 1))) (.cons (.swp (.var 3) (.var 4) (.var 3) (.var 5) (.tup (.cons (.idx (.var 3) (.var 5)) (.cons (.idx (.var 3) (.var 4)) .nil)))) .nil) .nil) .nil))
def b26 : Sts := (.cons (.par [2, 3] (.cons (.new .nil) (.cons (.newc (.var 0)) .nil))) (.cons (.for_ (.tp (.cons (.nm 4) (.cons (.nm 5) .nil))) (.seq (.var 1)) b26l0) (.cons (.ret (.tup (.cons (.blt .tuple (.cons (.var 2) .nil)) (.cons (.blt .tuple (.cons (.var 3) .nil)) .nil)))) .nil)))
def b27l0 : Sts := (.cons (.set (.nm 2) (.bin .add (.comp (.bin .add (.var 4) (.tup (.cons (.cst (.int 0)) .nil))) [4] (.nm 4) (.seq (.var 2)) .nil) (.comp (.bin .add (.var 4) (.tup (.cons (.cst (.int 1)) .nil))) [4] (.nm 4) (.seq (.var 2)) .nil))) .nil)
def b27 : Sts := (.cons (.set (.nm 2) (.lst (.cons (.tup .nil) .nil))) (.cons (.for_ (.nm 3) (.rng (.cons (.var 0) .nil)) b27l0) (.cons (.ret (.cmp .eq (.comp (.cst (.int 1)) [4] (.nm 4) (.seq (.var 2)) (.cons (.cmp .ne (.idx (.call 26 (.cons (.var 4) (.cons (.var 1) .nil))) (.cst (.int 1))) (.blt .tuple (.cons (.blt .sorted (.cons (.var 4) .nil)) .nil))) .nil)) (.lst .nil))) .nil)))
def b28 : Sts := (.cons (.ife (.or (.not (.isi (.var 1) "tuple")) (.or (.cmp .ne (.blt .len (.cons (.var 1) .nil)) (.cst (.int 2))) (.cmp .ne (.comp (.cst (.int 1)) [2] (.nm 2) (.seq (.var 1)) (.cons (.not (.call 17 (.cons (.var 2) .nil))) .nil)) (.lst .nil)))) (.cons (.ret (.cst (.bl false))) .nil) .nil) (.cons (.ret (.cmp2 .lt .lt (.idx (.var 1) (.cst (.int 0))) (.idx (.var 1) (.cst (.int 1))) (.var 0))) .nil))
def b29 : Sts := (.cons (.ife (.cmp .lt (.var 0) (.cst (.int 2))) (.cons (.ret (.call 6 (.cons (.ite (.cmp .eq (.var 0) (.cst (.int 0))) (.cst (.int 0)) (.cst (.bl true))) .nil))) .nil) .nil) (.cons (.ife (.cmp .lt (.var 0) (.cst (.int 4))) (.cons (.ret (.ite (.cmp .eq (.var 0) (.cst (.int 2))) (.call 11 (.cons (.bin .mul (.tup (.cons (.cst (.int 1)) .nil)) (.var 1)) (.cons (.var 2) (.cons (.cst .non) .nil)))) (.call 13 (.cons (.bin .add (.bin .mul (.tup (.cons (.cst (.int 0)) .nil)) (.var 1)) (.tup (.cons (.cst (.int 0)) .nil))) (.cons (.tup .nil) .nil))))) .nil) .nil) (.cons (.ife (.cmp .lt (.var 0) (.cst (.int 6))) (.cons (.ret (.call 8 (.cons (.ite (.cmp .eq (.var 0) (.cst (.int 4))) (.cst (.int 0)) (.cst .non)) (.cons (.tup .nil) .nil)))) .nil) .nil) (.cons (.ret (.ite (.cmp .eq (.var 0) (.cst (.int 6))) (.call 11 (.cons (.tup .nil) (.cons (.tup .nil) (.cons (.tup .nil) .nil)))) (.call 12 (.cons (.tup .nil) (.cons (.tup .nil) .nil))))) .nil))))
def b30l0 : Sts := (.cons (.set (.nm 8) (.and (.isi (.var 5) "tuple") (.cmp .eq (.comp (.cst (.int 1)) [17] (.nm 17) (.seq (.var 5)) (.cons (.not (.call 28 (.cons (.var 3) (.cons (.var 17) .nil)))) .nil)) (.lst .nil)))) (.cons (.ife (.not (.call 20 (.cons (.call 8 (.cons (.var 3) (.cons (.var 5) .nil))) (.cons (.var 8) .nil)))) (.cons (.ret (.cst (.bl false))) .nil) .nil) .nil))
def b30l1 : Sts := (.cons (.set (.nm 9) (.blt .tuple (.cons (.comp (.bin .sub (.call 19 (.cons (.var 1) (.cons (.cst (.int 9)) .nil))) (.cst (.int 4))) [14] (.nm 14) (.rng (.cons (.var 3) .nil)) .nil) .nil))) (.cons (.set (.nm 10) (.blt .tuple (.cons (.comp (.call 19 (.cons (.var 1) (.cons (.cst (.int 2)) .nil))) [15] (.nm 15) (.seq (.var 5)) .nil) .nil))) (.cons (.set (.nm 8) (.lst (.cons (.call 25 (.cons (.var 9) (.cons (.var 5) (.cons (.var 10) .nil)))) (.cons (.idx (.call 26 (.cons (.var 9) (.cons (.var 5) .nil))) (.cst (.int 0))) .nil)))) (.cons (.ife (.not (.call 20 (.cons (.lst (.cons (.call 11 (.cons (.var 9) (.cons (.var 5) (.cons (.var 10) .nil)))) (.cons (.call 12 (.cons (.var 9) (.cons (.var 5) .nil))) .nil))) (.cons (.var 8) .nil)))) (.cons (.ret (.cst (.bl false))) .nil) .nil) (.cons (.set (.nm 11) (.tupp (.call 24 (.cons (.var 1) (.cons (.rgl false (.var 3)) .nil))))) (.cons (.set (.nm 12) (.call 26 (.cons (.comp (.tix 11 (.var 16)) [16] (.nm 16) (.rng (.cons (.var 3) .nil)) .nil) (.cons (.var 5) .nil)))) (.cons (.ife (.not (.call 20 (.cons (.call 13 (.cons (.var 11) (.cons (.var 5) .nil))) (.cons (.ite (.cmp .eq (.idx (.var 12) (.cst (.int 1))) (.rgl true (.var 3))) (.idx (.var 12) (.cst (.int 0))) (.cst .non)) .nil)))) (.cons (.ret (.cst (.bl false))) .nil) .nil) (.cons (.ife (.and (.cmp .lt (.var 3) (.cst (.int 8))) (.not (.call 20 (.cons (.call 15 (.cons (.var 3) (.cons (.var 5) .nil))) (.cons (.call 27 (.cons (.var 3) (.cons (.var 5) .nil))) .nil))))) (.cons (.ret (.cst (.bl false))) .nil) .nil) .nil))))))))
def b30l2 : Sts := (.cons (.tryo (.cons (.expr (.call 29 (.cons (.var 7) (.cons (.var 3) (.cons (.var 4) .nil))))) (.cons (.ret (.cst (.bl false))) .nil)) 0 (.cons .cont .nil)) .nil)
def b30l3 : Sts := (.cons (.set (.nm 3) (.bin .add (.cst (.int 1)) (.call 19 (.cons (.var 1) (.cons (.cst (.int 16)) .nil))))) (.cons (.set (.nm 4) (.call 6 (.cons (.var 3) .nil))) (.cons (.ife (.or (.not (.call 20 (.cons (.var 4) (.cons (.call 21 (.cons (.var 3) .nil)) .nil)))) (.cmp .isnot (.call 8 (.cons (.var 3) (.cons (.var 4) .nil))) (.cst (.bl true)))) (.cons (.ret (.cst (.bl false))) .nil) .nil) (.cons (.for_ (.nm 5) (.seq (.bin .add (.lst (.cons (.blt .list (.cons (.var 4) .nil)) (.cons (.cst .non) (.cons (.tup (.cons (.tup (.cons (.cst (.int 0)) (.cons (.var 3) .nil))) .nil)) (.cons (.tup (.cons (.tup (.cons (.cst (.int 1)) (.cons (.cst (.int 0)) .nil))) .nil)) (.cons (.tup (.cons (.tup (.cons (.cst (.int 0)) (.cons (.cst (.int 0)) .nil))) .nil)) .nil)))))) (.comp (.call 23 (.cons (.var 1) (.cons (.var 4) (.cons (.cst (.int 3)) .nil)))) [13] (.nm 13) (.rng (.cons (.cst (.int 4)) .nil)) .nil))) b30l0) (.cons (.set (.nm 6) (.comp (.blt .tuple (.cons (.blt .sorted (.cons (.slc (.call 24 (.cons (.var 1) (.cons (.rgl false (.var 3)) .nil))) .nil (.cons (.cst (.int 2)) .nil)) .nil)) .nil)) [13] (.nm 13) (.rng (.cons (.call 19 (.cons (.var 1) (.cons (.cst (.int 9)) .nil))) .nil)) .nil)) (.cons (.for_ (.nm 5) (.seq (.tup (.cons (.var 4) (.cons (.slc (.var 4) (.cons (.cst (.int 1)) .nil) .nil) (.cons (.slc (.var 4) .nil (.cons (.neg (.cst (.int 1))) .nil)) (.cons (.ite (.cmp .gt (.var 3) (.cst (.int 1))) (.blt .tuple (.cons (.var 6) .nil)) (.tup .nil)) .nil)))))) b30l1) (.cons (.for_ (.nm 7) (.rng (.cons (.cst (.int 8)) .nil)) b30l2) .nil)))))))
def b30 : Sts := (.cons (.set (.nm 1) (.callk 18 (.cons (.var 0) .nil))) (.cons (.for_ (.nm 2) (.rng (.cons (.cst (.int 4)) .nil)) b30l3) (.cons (.ret (.cst (.bl true))) .nil)))
/-- is_number(thing): 0 thing -/
def r0 : Rf.Row := ⟨"is_number", top 6, ["thing"], ["thing"], b0⟩
/-- is_index(thing): 0 thing -/
def r1 : Rf.Row := ⟨"is_index", top 7, ["thing"], ["thing"], b1⟩
/-- is_sized(thing, many): 0 thing, 1 many -/
def r2 : Rf.Row := ⟨"is_sized", top 8, ["thing", "many"], ["thing", "many"], b2⟩
/-- is_tuple_of(thing, is_one): 0 thing, 1 is_one, 2 one -/
def r3 : Rf.Row := ⟨"is_tuple_of", top 9, ["thing", "is_one", "one"], ["thing", "is_one"], b3⟩
/-- check_places(many): 0 many -/
def r4 : Rf.Row := ⟨"check_places", top 13, ["many"], ["many"], b4⟩
/-- compared(many, size, step): 0 many, 1 size, 2 step, 3 found, 4 begin, 5 at -/
def r5 : Rf.Row := ⟨"compared", top 14, ["many", "size", "step", "found", "begin", "at"], ["many", "size", "step"], b5⟩
/-- network(many): 0 many, 1 found, 2 size, 3 step -/
def r6 : Rf.Row := ⟨"network", top 15, ["many", "found", "size", "step"], ["many"], b6⟩
/-- is_couple(many, thing): 0 many, 1 thing -/
def r7 : Rf.Row := ⟨"is_couple", top 16, ["many", "thing"], ["many", "thing"], b7⟩
/-- is_network(many, thing): 0 many, 1 thing, 2 one -/
def r8 : Rf.Row := ⟨"is_network", top 17, ["many", "thing", "one"], ["many", "thing"], b8⟩
/-- check_network(many, thing): 0 many, 1 thing -/
def r9 : Rf.Row := ⟨"check_network", top 18, ["many", "thing"], ["many", "thing"], b9⟩
/-- exchanged(rows, couple): 0 rows, 1 couple, 2 one, 3 other, 4 found -/
def r10 : Rf.Row := ⟨"exchanged", top 19, ["rows", "couple", "one", "other", "found"], ["rows", "couple"], b10⟩
/-- led(rows, thing, bits): 0 rows, 1 thing, 2 bits, 3 bit, 4 couple -/
def r11 : Rf.Row := ⟨"led", top 20, ["rows", "thing", "bits", "bit", "couple"], ["rows", "thing", "bits"], b11⟩
/-- bits_for(keys, thing): 0 keys, 1 thing, 2 found, 3 couple -/
def r12 : Rf.Row := ⟨"bits_for", top 21, ["keys", "thing", "found", "couple"], ["keys", "thing"], b12⟩
/-- bits_to(order, thing): 0 order, 1 thing, 2 keys, 3 at, 4 bits -/
def r13 : Rf.Row := ⟨"bits_to", top 22, ["order", "thing", "keys", "at", "bits"], ["order", "thing"], b13⟩
/-- all_bits(many): 0 many, 1 found, 2 _turn, 3 some -/
def r14 : Rf.Row := ⟨"all_bits", top 23, ["many", "found", "_turn", "some"], ["many"], b14⟩
/-- does_order(many, thing): 0 many, 1 thing, 2 keys -/
def r15 : Rf.Row := ⟨"does_order", top 24, ["many", "thing", "keys"], ["many", "thing"], b15⟩
/-- _law_is_int(thing): 0 thing -/
def r16 : Rf.Row := ⟨"_law_is_int", top 26, ["thing"], ["thing"], b16⟩
/-- _law_is_index(thing): 0 thing -/
def r17 : Rf.Row := ⟨"_law_is_index", top 27, ["thing"], ["thing"], b17⟩
/-- _law_bag(script): 0 script, 1 cell -/
def r18 : Rf.Row := ⟨"_law_bag", top 28, ["script", "cell"], ["script"], b18⟩
/-- _law_take(bag, many): 0 bag, 1 many, 2 cell, 3 stirred, 4 value, 5 begin, 6 second -/
def r19 : Rf.Row := ⟨"_law_take", top 29, ["bag", "many", "cell", "stirred", "value", "begin", "second"], ["bag", "many"], b19⟩
/-- _law_alike(found, due): 0 found, 1 due -/
def r20 : Rf.Row := ⟨"_law_alike", top 30, ["found", "due"], ["found", "due"], b20⟩
/-- _law_couples(many): 0 many, 1 found, 2 size, 3 level, 4 step, 5 half, 6 at, 7 behind -/
def r21 : Rf.Row := ⟨"_law_couples", top 31, ["many", "found", "size", "level", "step", "half", "at", "behind"], ["many"], b21⟩
/-- _law_some(bag, things): 0 bag, 1 things -/
def r22 : Rf.Row := ⟨"_law_some", top 32, ["bag", "things"], ["bag", "things"], b22⟩
/-- _law_bent(bag, thing, depth): 0 bag, 1 thing, 2 depth, 3 way, 4 at -/
def r23 : Rf.Row := ⟨"_law_bent", top 33, ["bag", "thing", "depth", "way", "at"], ["bag", "thing", "depth"], b23⟩
/-- _law_mixed(bag, things): 0 bag, 1 things, 2 found, 3 thing -/
def r24 : Rf.Row := ⟨"_law_mixed", top 34, ["bag", "things", "found", "thing"], ["bag", "things"], b24⟩
/-- _law_exchanged(rows, couples, bits): 0 rows, 1 couples, 2 bits, 3 found, 4 bit, 5 one, 6 other -/
def r25 : Rf.Row := ⟨"_law_exchanged", top 35, ["rows", "couples", "bits", "found", "bit", "one", "other"], ["rows", "couples", "bits"], b25⟩
/-- _law_ordered(keys, couples): 0 keys, 1 couples, 2 found, 3 line, 4 one, 5 other -/
def r26 : Rf.Row := ⟨"_law_ordered", top 36, ["keys", "couples", "found", "line", "one", "other"], ["keys", "couples"], b26⟩
/-- _law_does_order(many, couples): 0 many, 1 couples, 2 rows, 3 place, 4 row -/
def r27 : Rf.Row := ⟨"_law_does_order", top 37, ["many", "couples", "rows", "place", "row"], ["many", "couples"], b27⟩
/-- _law_is_couple(many, thing): 0 many, 1 thing, 2 one -/
def r28 : Rf.Row := ⟨"_law_is_couple", top 38, ["many", "thing", "one"], ["many", "thing"], b28⟩
/-- _law_ask(way, many, couples): 0 way, 1 many, 2 couples -/
def r29 : Rf.Row := ⟨"_law_ask", top 39, ["way", "many", "couples"], ["way", "many", "couples"], b29⟩
/-- law(script): 0 script, 1 bag, 2 turn, 3 many, 4 couples, 5 thing, 6 drawn, 7 way, 8 due, 9 keys, 10 bits, 11 order, 12 theirs, 13 again, 14 place, 15 couple, 16 at, 17 one -/
def r30 : Rf.Row := ⟨"law", top 40, ["script", "bag", "turn", "many", "couples", "thing", "drawn", "way", "due", "keys", "bits", "order", "theirs", "again", "place", "couple", "at", "one"], ["script"], b30⟩
def Tb : Tabs := ⟨[r0, r1, r2, r3, r4, r5, r6, r7, r8, r9, r10, r11, r12, r13, r14, r15, r16, r17, r18, r19, r20, r21, r22, r23, r24, r25, r26, r27, r28, r29, r30], [("MOST_PLACES", .int 16), ("MOST_TRIED", .int 10)], ["isinstance", "bool", "int", "len", "tuple", "all", "range", "min", "list", "zip", "sorted", "abs", "repr", "super"], ["Nothing", "TooLarge"], 1, [[], ["what", "limit"]]⟩
def x1 : XRow := ⟨"TooLarge", "TooLarge.__init__", (clsBody (top 4)).getD 0 (.Pass ⟨0, 0, 0, 0⟩), "self", ["what", "limit"]⟩
def l : Law := { Tb := Tb, sub := fun i j => i == j, xs := [x1], file := PySem.Challenge.pw_fixwright_k53_networks_that_put_rows_in.main.file }

theorem bind0 (kV doc pm : Value) (an : Option Addr) (cdv ct : Value) (us : List Value) (h : us.length = r0.ps.length) : bindArgs (PySem.W.fnOf r0.name r0.name (defArgs r0.st) (defBody r0.st) (defScope r0.st) .none kV doc pm an cdv ct) ⟨us, []⟩ = pure (r0.ps.zip us) := by
  match us, h with
  | [_], _ => rfl
theorem bind1 (kV doc pm : Value) (an : Option Addr) (cdv ct : Value) (us : List Value) (h : us.length = r1.ps.length) : bindArgs (PySem.W.fnOf r1.name r1.name (defArgs r1.st) (defBody r1.st) (defScope r1.st) .none kV doc pm an cdv ct) ⟨us, []⟩ = pure (r1.ps.zip us) := by
  match us, h with
  | [_], _ => rfl
theorem bind2 (kV doc pm : Value) (an : Option Addr) (cdv ct : Value) (us : List Value) (h : us.length = r2.ps.length) : bindArgs (PySem.W.fnOf r2.name r2.name (defArgs r2.st) (defBody r2.st) (defScope r2.st) .none kV doc pm an cdv ct) ⟨us, []⟩ = pure (r2.ps.zip us) := by
  match us, h with
  | [_, _], _ => rfl
theorem bind3 (kV doc pm : Value) (an : Option Addr) (cdv ct : Value) (us : List Value) (h : us.length = r3.ps.length) : bindArgs (PySem.W.fnOf r3.name r3.name (defArgs r3.st) (defBody r3.st) (defScope r3.st) .none kV doc pm an cdv ct) ⟨us, []⟩ = pure (r3.ps.zip us) := by
  match us, h with
  | [_, _], _ => rfl
theorem bind4 (kV doc pm : Value) (an : Option Addr) (cdv ct : Value) (us : List Value) (h : us.length = r4.ps.length) : bindArgs (PySem.W.fnOf r4.name r4.name (defArgs r4.st) (defBody r4.st) (defScope r4.st) .none kV doc pm an cdv ct) ⟨us, []⟩ = pure (r4.ps.zip us) := by
  match us, h with
  | [_], _ => rfl
theorem bind5 (kV doc pm : Value) (an : Option Addr) (cdv ct : Value) (us : List Value) (h : us.length = r5.ps.length) : bindArgs (PySem.W.fnOf r5.name r5.name (defArgs r5.st) (defBody r5.st) (defScope r5.st) .none kV doc pm an cdv ct) ⟨us, []⟩ = pure (r5.ps.zip us) := by
  match us, h with
  | [_, _, _], _ => rfl
theorem bind6 (kV doc pm : Value) (an : Option Addr) (cdv ct : Value) (us : List Value) (h : us.length = r6.ps.length) : bindArgs (PySem.W.fnOf r6.name r6.name (defArgs r6.st) (defBody r6.st) (defScope r6.st) .none kV doc pm an cdv ct) ⟨us, []⟩ = pure (r6.ps.zip us) := by
  match us, h with
  | [_], _ => rfl
theorem bind7 (kV doc pm : Value) (an : Option Addr) (cdv ct : Value) (us : List Value) (h : us.length = r7.ps.length) : bindArgs (PySem.W.fnOf r7.name r7.name (defArgs r7.st) (defBody r7.st) (defScope r7.st) .none kV doc pm an cdv ct) ⟨us, []⟩ = pure (r7.ps.zip us) := by
  match us, h with
  | [_, _], _ => rfl
theorem bind8 (kV doc pm : Value) (an : Option Addr) (cdv ct : Value) (us : List Value) (h : us.length = r8.ps.length) : bindArgs (PySem.W.fnOf r8.name r8.name (defArgs r8.st) (defBody r8.st) (defScope r8.st) .none kV doc pm an cdv ct) ⟨us, []⟩ = pure (r8.ps.zip us) := by
  match us, h with
  | [_, _], _ => rfl
theorem bind9 (kV doc pm : Value) (an : Option Addr) (cdv ct : Value) (us : List Value) (h : us.length = r9.ps.length) : bindArgs (PySem.W.fnOf r9.name r9.name (defArgs r9.st) (defBody r9.st) (defScope r9.st) .none kV doc pm an cdv ct) ⟨us, []⟩ = pure (r9.ps.zip us) := by
  match us, h with
  | [_, _], _ => rfl
theorem bind10 (kV doc pm : Value) (an : Option Addr) (cdv ct : Value) (us : List Value) (h : us.length = r10.ps.length) : bindArgs (PySem.W.fnOf r10.name r10.name (defArgs r10.st) (defBody r10.st) (defScope r10.st) .none kV doc pm an cdv ct) ⟨us, []⟩ = pure (r10.ps.zip us) := by
  match us, h with
  | [_, _], _ => rfl
theorem bind11 (kV doc pm : Value) (an : Option Addr) (cdv ct : Value) (us : List Value) (h : us.length = r11.ps.length) : bindArgs (PySem.W.fnOf r11.name r11.name (defArgs r11.st) (defBody r11.st) (defScope r11.st) .none kV doc pm an cdv ct) ⟨us, []⟩ = pure (r11.ps.zip us) := by
  match us, h with
  | [_, _, _], _ => rfl
theorem bind12 (kV doc pm : Value) (an : Option Addr) (cdv ct : Value) (us : List Value) (h : us.length = r12.ps.length) : bindArgs (PySem.W.fnOf r12.name r12.name (defArgs r12.st) (defBody r12.st) (defScope r12.st) .none kV doc pm an cdv ct) ⟨us, []⟩ = pure (r12.ps.zip us) := by
  match us, h with
  | [_, _], _ => rfl
theorem bind13 (kV doc pm : Value) (an : Option Addr) (cdv ct : Value) (us : List Value) (h : us.length = r13.ps.length) : bindArgs (PySem.W.fnOf r13.name r13.name (defArgs r13.st) (defBody r13.st) (defScope r13.st) .none kV doc pm an cdv ct) ⟨us, []⟩ = pure (r13.ps.zip us) := by
  match us, h with
  | [_, _], _ => rfl
theorem bind14 (kV doc pm : Value) (an : Option Addr) (cdv ct : Value) (us : List Value) (h : us.length = r14.ps.length) : bindArgs (PySem.W.fnOf r14.name r14.name (defArgs r14.st) (defBody r14.st) (defScope r14.st) .none kV doc pm an cdv ct) ⟨us, []⟩ = pure (r14.ps.zip us) := by
  match us, h with
  | [_], _ => rfl
theorem bind15 (kV doc pm : Value) (an : Option Addr) (cdv ct : Value) (us : List Value) (h : us.length = r15.ps.length) : bindArgs (PySem.W.fnOf r15.name r15.name (defArgs r15.st) (defBody r15.st) (defScope r15.st) .none kV doc pm an cdv ct) ⟨us, []⟩ = pure (r15.ps.zip us) := by
  match us, h with
  | [_, _], _ => rfl
theorem bind16 (kV doc pm : Value) (an : Option Addr) (cdv ct : Value) (us : List Value) (h : us.length = r16.ps.length) : bindArgs (PySem.W.fnOf r16.name r16.name (defArgs r16.st) (defBody r16.st) (defScope r16.st) .none kV doc pm an cdv ct) ⟨us, []⟩ = pure (r16.ps.zip us) := by
  match us, h with
  | [_], _ => rfl
theorem bind17 (kV doc pm : Value) (an : Option Addr) (cdv ct : Value) (us : List Value) (h : us.length = r17.ps.length) : bindArgs (PySem.W.fnOf r17.name r17.name (defArgs r17.st) (defBody r17.st) (defScope r17.st) .none kV doc pm an cdv ct) ⟨us, []⟩ = pure (r17.ps.zip us) := by
  match us, h with
  | [_], _ => rfl
theorem bind18 (kV doc pm : Value) (an : Option Addr) (cdv ct : Value) (us : List Value) (h : us.length = r18.ps.length) : bindArgs (PySem.W.fnOf r18.name r18.name (defArgs r18.st) (defBody r18.st) (defScope r18.st) .none kV doc pm an cdv ct) ⟨us, []⟩ = pure (r18.ps.zip us) := by
  match us, h with
  | [_], _ => rfl
theorem bind19 (kV doc pm : Value) (an : Option Addr) (cdv ct : Value) (us : List Value) (h : us.length = r19.ps.length) : bindArgs (PySem.W.fnOf r19.name r19.name (defArgs r19.st) (defBody r19.st) (defScope r19.st) .none kV doc pm an cdv ct) ⟨us, []⟩ = pure (r19.ps.zip us) := by
  match us, h with
  | [_, _], _ => rfl
theorem bind20 (kV doc pm : Value) (an : Option Addr) (cdv ct : Value) (us : List Value) (h : us.length = r20.ps.length) : bindArgs (PySem.W.fnOf r20.name r20.name (defArgs r20.st) (defBody r20.st) (defScope r20.st) .none kV doc pm an cdv ct) ⟨us, []⟩ = pure (r20.ps.zip us) := by
  match us, h with
  | [_, _], _ => rfl
theorem bind21 (kV doc pm : Value) (an : Option Addr) (cdv ct : Value) (us : List Value) (h : us.length = r21.ps.length) : bindArgs (PySem.W.fnOf r21.name r21.name (defArgs r21.st) (defBody r21.st) (defScope r21.st) .none kV doc pm an cdv ct) ⟨us, []⟩ = pure (r21.ps.zip us) := by
  match us, h with
  | [_], _ => rfl
theorem bind22 (kV doc pm : Value) (an : Option Addr) (cdv ct : Value) (us : List Value) (h : us.length = r22.ps.length) : bindArgs (PySem.W.fnOf r22.name r22.name (defArgs r22.st) (defBody r22.st) (defScope r22.st) .none kV doc pm an cdv ct) ⟨us, []⟩ = pure (r22.ps.zip us) := by
  match us, h with
  | [_, _], _ => rfl
theorem bind23 (kV doc pm : Value) (an : Option Addr) (cdv ct : Value) (us : List Value) (h : us.length = r23.ps.length) : bindArgs (PySem.W.fnOf r23.name r23.name (defArgs r23.st) (defBody r23.st) (defScope r23.st) .none kV doc pm an cdv ct) ⟨us, []⟩ = pure (r23.ps.zip us) := by
  match us, h with
  | [_, _, _], _ => rfl
theorem bind24 (kV doc pm : Value) (an : Option Addr) (cdv ct : Value) (us : List Value) (h : us.length = r24.ps.length) : bindArgs (PySem.W.fnOf r24.name r24.name (defArgs r24.st) (defBody r24.st) (defScope r24.st) .none kV doc pm an cdv ct) ⟨us, []⟩ = pure (r24.ps.zip us) := by
  match us, h with
  | [_, _], _ => rfl
theorem bind25 (kV doc pm : Value) (an : Option Addr) (cdv ct : Value) (us : List Value) (h : us.length = r25.ps.length) : bindArgs (PySem.W.fnOf r25.name r25.name (defArgs r25.st) (defBody r25.st) (defScope r25.st) .none kV doc pm an cdv ct) ⟨us, []⟩ = pure (r25.ps.zip us) := by
  match us, h with
  | [_, _, _], _ => rfl
theorem bind26 (kV doc pm : Value) (an : Option Addr) (cdv ct : Value) (us : List Value) (h : us.length = r26.ps.length) : bindArgs (PySem.W.fnOf r26.name r26.name (defArgs r26.st) (defBody r26.st) (defScope r26.st) .none kV doc pm an cdv ct) ⟨us, []⟩ = pure (r26.ps.zip us) := by
  match us, h with
  | [_, _], _ => rfl
theorem bind27 (kV doc pm : Value) (an : Option Addr) (cdv ct : Value) (us : List Value) (h : us.length = r27.ps.length) : bindArgs (PySem.W.fnOf r27.name r27.name (defArgs r27.st) (defBody r27.st) (defScope r27.st) .none kV doc pm an cdv ct) ⟨us, []⟩ = pure (r27.ps.zip us) := by
  match us, h with
  | [_, _], _ => rfl
theorem bind28 (kV doc pm : Value) (an : Option Addr) (cdv ct : Value) (us : List Value) (h : us.length = r28.ps.length) : bindArgs (PySem.W.fnOf r28.name r28.name (defArgs r28.st) (defBody r28.st) (defScope r28.st) .none kV doc pm an cdv ct) ⟨us, []⟩ = pure (r28.ps.zip us) := by
  match us, h with
  | [_, _], _ => rfl
theorem bind29 (kV doc pm : Value) (an : Option Addr) (cdv ct : Value) (us : List Value) (h : us.length = r29.ps.length) : bindArgs (PySem.W.fnOf r29.name r29.name (defArgs r29.st) (defBody r29.st) (defScope r29.st) .none kV doc pm an cdv ct) ⟨us, []⟩ = pure (r29.ps.zip us) := by
  match us, h with
  | [_, _, _], _ => rfl
theorem bind30 (kV doc pm : Value) (an : Option Addr) (cdv ct : Value) (us : List Value) (h : us.length = r30.ps.length) : bindArgs (PySem.W.fnOf r30.name r30.name (defArgs r30.st) (defBody r30.st) (defScope r30.st) .none kV doc pm an cdv ct) ⟨us, []⟩ = pure (r30.ps.zip us) := by
  match us, h with
  | [_], _ => rfl
theorem binds (i : Nat) (r : Rf.Row) (hi : l.Tb.rows[i]? = some r) : ∀ (kV doc pm : Value) (an : Option Addr) (cdv ct : Value) (us : List Value), us.length = r.ps.length → bindArgs (PySem.W.fnOf r.name r.name (defArgs r.st) (defBody r.st) (defScope r.st) .none kV doc pm an cdv ct) ⟨us, []⟩ = pure (r.ps.zip us) := by
  match i, hi with
  | 0, hi => cases hi; exact bind0
  | 1, hi => cases hi; exact bind1
  | 2, hi => cases hi; exact bind2
  | 3, hi => cases hi; exact bind3
  | 4, hi => cases hi; exact bind4
  | 5, hi => cases hi; exact bind5
  | 6, hi => cases hi; exact bind6
  | 7, hi => cases hi; exact bind7
  | 8, hi => cases hi; exact bind8
  | 9, hi => cases hi; exact bind9
  | 10, hi => cases hi; exact bind10
  | 11, hi => cases hi; exact bind11
  | 12, hi => cases hi; exact bind12
  | 13, hi => cases hi; exact bind13
  | 14, hi => cases hi; exact bind14
  | 15, hi => cases hi; exact bind15
  | 16, hi => cases hi; exact bind16
  | 17, hi => cases hi; exact bind17
  | 18, hi => cases hi; exact bind18
  | 19, hi => cases hi; exact bind19
  | 20, hi => cases hi; exact bind20
  | 21, hi => cases hi; exact bind21
  | 22, hi => cases hi; exact bind22
  | 23, hi => cases hi; exact bind23
  | 24, hi => cases hi; exact bind24
  | 25, hi => cases hi; exact bind25
  | 26, hi => cases hi; exact bind26
  | 27, hi => cases hi; exact bind27
  | 28, hi => cases hi; exact bind28
  | 29, hi => cases hi; exact bind29
  | 30, hi => cases hi; exact bind30
  | n + 31, hi => simp [l, Tb] at hi
theorem sub_low (i j : Nat) (h : l.sub i j = true) : i < l.Tb.excs.length ∧ j < l.Tb.excs.length ∨ i = j := by
  exact .inr (eq_of_beq h)
theorem xbind1 (kV doc pm : Value) (an : Option Addr) (cdv ct : Value) (cc : Addr) (us : List Value) (h : us.length = (x1.sf :: x1.fs).length) : bindArgs (PySem.W.ksFn "__init__" x1.qual (defArgs x1.st) (defBody x1.st) (defScope x1.st) .none kV doc pm an cdv ct cc) ⟨us, []⟩ = pure ((x1.sf :: x1.fs).zip us) := by
  match us, h with
  | [_, _, _], _ => rfl
theorem xcond : XCond l PySem.Challenge.pw_fixwright_k53_networks_that_put_rows_in where
  ok := by decide +kernel
  rows := by decide +kernel
  bind := fun r hr => by
    rcases List.mem_cons.mp hr with rfl | hr
    · exact xbind1
    · cases hr
  prog := fun _ => ⟨by decide +kernel, by decide +kernel, by decide +kernel⟩
  low := sub_low
theorem rows_ok : l.Tb.rows.all (okR l.Tb) = true := by decide +kernel
end Lk53

set_option Elab.async false
set_option maxRecDepth 100000
set_option maxHeartbeats 1000000
namespace Lk53
open Rf
/-- the draws' bag -/
def bagO (a b c : Int) (cells : List Int) : Ob := .lst [.int a, .int b, .int c, .lst (cells.map .int)]
def BagOk (o : Ob) : Prop := ∃ a b c cells, o = bagO a b c cells ∧ 0 ≤ a ∧ 0 ≤ b ∧ 0 ≤ c ∧ (∀ x ∈ cells, 0 ≤ x) ∧ cells.length ≤ 63
theorem ints_pu : ∀ xs : List Int, puDs (xs.map D.int) = true
  | [] => by simp
  | x :: xs => by simp [ints_pu xs]
theorem bag_pu {o : Ob} (h : BagOk o) : puO o = true := by
  obtain ⟨a, b, c, cells, rfl, _⟩ := h
  simp [bagO, puO, ints_pu]
/-- the cell at a place, 0 behind the last -/
theorem cell_at {cells : List Int} {c : Int} (hc : 0 ≤ c) (hx : ∀ x ∈ cells, 0 ≤ x) : ∃ x : Int, 0 ≤ x ∧ atD (cutD (cells.map D.int) (some c) none ++ [.int 0]) 0 = some (.int x) := by
  rw [cutD_from hc, ← List.map_drop]
  cases hd : cells.drop c.toNat with
  | nil => exact ⟨0, by omega, by simp⟩
  | cons y ys => exact ⟨y, hx y (List.mem_of_mem_drop (by rw [hd]; exact List.mem_cons_self ..)), by simp⟩
theorem pow_1018 : binD .pow (.c (.int 10)) (.c (.int 18)) = some (.c (.int 1000000000000000000)) := by rfl
theorem mul_l (i : Int) : binD .mul (.c (.int i)) (.c (.int 48271)) = some (.c (.int (i * 48271))) := bin_mul (mulOk_r (by decide) (by decide))
theorem mul_2 (i : Int) : binD .mul (.c (.int 7919)) (.c (.int i)) = some (.c (.int (7919 * i))) := bin_mul (mulOk_l (by decide) (by decide))
theorem mul_3 (i : Int) : binD .mul (.c (.int i)) (.c (.int 39373)) = some (.c (.int (i * 39373))) := bin_mul (mulOk_r (by decide) (by decide))
theorem mul_4 (i : Int) : binD .mul (.c (.int i)) (.c (.int 30011)) = some (.c (.int (i * 30011))) := bin_mul (mulOk_r (by decide) (by decide))
theorem mul_5 (i : Int) : binD .mul (.c (.int (i % 1000000007))) (.c (.int (i % 1000000007))) = some (.c (.int ((i % 1000000007) * (i % 1000000007)))) := bin_mul (mulOk_l (by omega) (by omega))
theorem mod_1 (i : Int) : binD .mod (.c (.int i)) (.c (.int 2147483647)) = some (.c (.int (i % 2147483647))) := bin_mod (by decide)
theorem mod_2 (i : Int) : binD .mod (.c (.int i)) (.c (.int 1000000007)) = some (.c (.int (i % 1000000007))) := bin_mod (by decide)
theorem mod_3 (i : Int) : binD .mod (.c (.int i)) (.c (.int 998244353)) = some (.c (.int (i % 998244353))) := bin_mod (by decide)
theorem div_7 (i : Int) : binD .div (.c (.int i)) (.c (.int 7)) = some (.c (.int (i / 7))) := bin_div (by decide)
theorem take_ok {k : Nat} {m : Int} {o : Ob} {R : Store} (hk : 1 ≤ k) (ho : BagOk o) (hm : 0 < m) (hm2 : m < 1073741824) : ∃ v o', l.call k 19 [.ref 0, .int m] (o :: R) = .ok (.int v) (o' :: R) ∧ BagOk o' ∧ 0 ≤ v ∧ v < m := by
  obtain ⟨k, rfl⟩ : ∃ j, k = j + 1 := ⟨k - 1, by omega⟩
  obtain ⟨a, b, c, cells, rfl, ha, hb, hc, hx, hl⟩ := ho
  rw [l.call_eq (d := ⟨7, 2, b19⟩) rfl rfl]
  obtain ⟨x, x0, ex⟩ := cell_at hc hx
  have hcut : (cutD (cells.map D.int) (some c) none).length + [D.c (.int 0)].length ≤ LINE := by
    rw [cutD_from hc]
    simp [LINE]
    omega
  have hadd := bin_addL hcut
  generalize hys : cutD (cells.map D.int) (some c) none ++ [D.c (.int 0)] = ys at hadd ex
  have dm := bin_mod (i := a) hm
  have bound : ∀ i : Int, 0 ≤ i % m ∧ i % m < m := fun i => ⟨Int.emod_nonneg _ (by omega), Int.emod_lt_of_pos _ hm⟩
  have big : ∀ i : Int, 0 ≤ i % 2147483647 := fun i => Int.emod_nonneg _ (by decide)
  by_cases h0 : a = 0
  · subst h0
    by_cases hbig : 1000000000000000000 ≤ x
    · have xpos : 0 < x := by omega
      simp [b19, bagO, start, execs, exec, ev, evs, asg, slcP_lst, hadd, ex, ixD, pow_1018, mul_l, mul_2, mul_3, mul_4, mod_1, mod_2, mod_3, hbig, xpos, bin_mod hm, bin_div ⟨hm, hm2⟩]
      refine ⟨_, _, ⟨rfl, rfl⟩, ⟨_, _, _, cells, rfl, ?_, ?_, ?_, hx, hl⟩, (bound _).1, (bound _).2⟩
      · exact Int.ediv_nonneg (by omega) (by omega)
      · exact big _
      · omega
    · simp [b19, bagO, start, execs, exec, ev, evs, asg, slcP_lst, hadd, ex, ixD, pow_1018, mul_l, mul_2, mul_3, mul_4, mul_5, mod_1, mod_2, mod_3, div_7, hbig, bin_mod hm, bin_div ⟨hm, hm2⟩]
      refine ⟨_, _, ⟨rfl, rfl⟩, ⟨_, _, _, cells, rfl, ?_, ?_, ?_, hx, hl⟩, (bound _).1, (bound _).2⟩
      · exact Int.le_refl 0
      · exact big _
      · omega
  · have apos : 0 < a := by omega
    simp [b19, bagO, start, execs, exec, ev, evs, asg, ixD, h0, apos, bin_mod hm, bin_div ⟨hm, hm2⟩]
    refine ⟨_, _, ⟨rfl, rfl⟩, ⟨_, _, _, cells, rfl, ?_, ?_, ?_, hx, hl⟩, (bound _).1, (bound _).2⟩
    · exact Int.ediv_nonneg (by omega) (by omega)
    · exact hb
    · exact hc
theorem unmap {α : Type} (e : α → D) {P : α → Prop} : ∀ {ys : List D}, (∀ y ∈ ys, ∃ a, y = e a ∧ P a) → ∃ xs : List α, ys = xs.map e ∧ ∀ a ∈ xs, P a
  | [], _ => ⟨[], rfl, fun a ha => by cases ha⟩
  | y :: ys, h => by
    obtain ⟨a, rfl, pa⟩ := h y (List.mem_cons_self ..)
    obtain ⟨xs, rfl, px⟩ := unmap e fun z hz => h z (List.mem_cons_of_mem _ hz)
    refine ⟨a :: xs, rfl, fun b hb => ?_⟩
    rcases List.mem_cons.mp hb with rfl | hb
    · exact pa
    · exact px b hb
theorem bagS {o : Ob} {R : Store} (ho : BagOk o) (hR : Pu R) : Pu (o :: R) := by
  unfold Pu at *
  rw [List.all_cons, bag_pu ho, hR]
  rfl
/-- a draw, as a call comes -/
theorem take_call {k : Nat} {m : Int} {o : Ob} {R : Store} (hk : 1 ≤ k) (ho : BagOk o) (hR : Pu R) (hm : 0 < m) (hm2 : m < 1073741824) : ∃ v o', trim (R.length + 1) (l.call k 19 [.ref 0, .int m] (o :: R)) = .ok (.int v) (o' :: R) ∧ BagOk o' ∧ 0 ≤ v ∧ v < m := by
  obtain ⟨v, o', e, ho', h0, h1⟩ := take_ok (R := R) hk ho hm hm2
  refine ⟨v, o', ?_, ho', h0, h1⟩
  rw [e]
  exact trim_same (by simp) (bagS ho' hR) rfl
theorem some_ok {k : Nat} {xs : List D} {o : Ob} {R : Store} (hk : 2 ≤ k) (ho : BagOk o) (hR : Pu R) (hn : 0 < xs.length) (hn2 : xs.length < 1073741824) : ∃ d o', l.call k 22 [.ref 0, .lst xs] (o :: R) = .ok d (o' :: R) ∧ BagOk o' ∧ d ∈ xs := by
  obtain ⟨k, rfl⟩ : ∃ j, k = j + 1 := ⟨k - 1, by omega⟩
  rw [l.call_eq (d := ⟨2, 2, b22⟩) rfl rfl]
  obtain ⟨v, o', e, ho', h0, h1⟩ := take_call (k := k) (m := xs.length) (R := R) (by omega) ho hR (by omega) (by omega)
  have hat : atD xs v = some xs[v.toNat] := by
    rw [atD_nat h0 h1, List.getElem?_eq_getElem (by omega)]
  simp [b22, start, execs, exec, ev, evs, e, hat]
  exact ⟨_, _, ⟨rfl, rfl⟩, ho', List.getElem_mem _⟩
theorem rng1 {n : Int} (h : n ≤ 1000) (h0 : 0 ≤ n) : rngI [.c (.int n)] = some (rngN 0 1 n.toNat) := by
  show (if _ then _ else _) = _
  rw [if_pos]
  simp [small62, LINE]
  omega
/-- so many draws, each of a kind -/
theorem draws {f : D → Store → Res (Option D)} {α : Type} (e : α → D) {P : α → Prop} {o : Ob} {R : Store} (ho : BagOk o) {xs : List D} (h : ∀ x ∈ xs, ∀ o, BagOk o → ∃ a o', f x (o :: R) = .ok (some (e a)) (o' :: R) ∧ BagOk o' ∧ P a) :
    ∃ (as : List α) (o' : Ob), turns f xs (o :: R) = .ok (as.map e) (o' :: R) ∧ BagOk o' ∧ as.length = xs.length ∧ ∀ a ∈ as, P a := by
  obtain ⟨ys, S', h1, ⟨o', rfl, ho'⟩, h3, h4⟩ := turns_inv (f := f) (P := fun S => ∃ o, S = o :: R ∧ BagOk o) (Q := fun _ y => ∃ a, y = e a ∧ P a) (xs := xs) (S := o :: R) (fun x hx S ⟨o1, e1, ho1⟩ => by
    subst e1
    obtain ⟨a, o', q1, q2, q3⟩ := h x hx o1 ho1
    exact ⟨e a, _, q1, ⟨o', rfl, q2⟩, a, rfl, q3⟩) ⟨o, rfl, ho⟩
  obtain ⟨as, rfl, pa⟩ := unmap e (P := P) fun y hy => let ⟨_, _, z⟩ := h4 y hy; z
  exact ⟨as, o', h1, ho', by simpa using h3, pa⟩
theorem trim_pu {n : Nat} {v : D} {S : Store} (hv : puD v = true) (hS : Pu S) (hn : S.length = n) {r : Res D} (h : r = .ok v S) : trim n r = .ok v S := by
  rw [h]
  exact trim_same hv hS hn
/-! ### the end of the store -/
theorem see_end {S : Store} {xs : List D} : see (S ++ [.lst xs]) (.ref S.length) = .lst xs := by
  show (match (S ++ [Ob.lst xs])[S.length]? with | some (.lst xs) => D.lst xs | _ => _) = _
  rw [at_end]
theorem lstAt_end {S : Store} {xs : List D} : lstAt (S ++ [.lst xs]) (.ref S.length) = some (S.length, xs) := by
  show (match (S ++ [Ob.lst xs])[S.length]? with | some (.lst xs) => some (S.length, xs) | _ => _) = _
  rw [at_end]
theorem app_ok {S : Store} {xs : List D} : mthOk .append (.ref S.length) (S ++ [.lst xs]) = true := by
  show (lstAt _ _).isSome = true
  rw [lstAt_end]
  rfl
theorem ext_ok {S : Store} {xs : List D} : mthOk .extend (.ref S.length) (S ++ [.lst xs]) = true := by
  show (lstAt _ _).isSome = true
  rw [lstAt_end]
  rfl
theorem app_end {S : Store} {xs : List D} {v : D} (h : xs.length < LINE) : mthD .append (.ref S.length) [v] (S ++ [.lst xs]) = .ok .non (S ++ [.lst (xs ++ [v])]) := by
  show appD _ _ _ = _
  unfold appD
  rw [lstAt_end]
  dsimp only
  rw [if_pos h, set_end]
theorem ext_end {S : Store} {xs vs : List D} (h : xs.length + vs.length ≤ LINE) : mthD .extend (.ref S.length) [.lst vs] (S ++ [.lst xs]) = .ok .non (S ++ [.lst (xs ++ vs)]) := by
  show extD _ _ _ = _
  unfold extD
  rw [lstAt_end]
  dsimp only [see]
  rw [if_pos h, set_end]
theorem idx_end {S : Store} {xs : List D} {i : Int} : idxD (.ref S.length) (.c (.int i)) (S ++ [.lst xs]) = atD xs i := by
  show (match (S ++ [Ob.lst xs])[S.length]?, D.c (.int i) with | some (.lst xs), .c (.int i) => atD xs i | some (.dct kvs), i => (keyOf i).bind fun k => getK kvs k | _, _ => none) = _
  rw [at_end]
theorem put_endL {S : Store} {xs : List D} {i : Int} {v : D} (h : 0 ≤ i) (h2 : i < xs.length) : putIx (.ref S.length) (.c (.int i)) v (S ++ [.lst xs]) = some (S ++ [.lst (xs.set i.toNat v)]) := by
  show (match (S ++ [Ob.lst xs])[S.length]?, D.c (.int i) with | some (.lst xs), .c (.int i) => (ixD xs.length i).map fun j => (S ++ [Ob.lst _]).set S.length (.lst (xs.set j v)) | some (.dct kvs), i => _ | _, _ => none) = _
  rw [at_end]
  dsimp only
  unfold ixD
  rw [if_pos h, if_pos h2, Option.map_some, set_end]
theorem last_end {S : Store} {xs : List D} {v : D} (h : xs.length < 2 ^ 60) : idxD (.ref S.length) (.c (.int (-1))) (S ++ [.lst (xs ++ [v])]) = some v := by
  rw [idx_end]
  unfold atD ixD
  rw [if_neg (by decide), if_pos (by simp; omega), Option.bind_some, List.length_append]
  have : (-1 + (((xs.length + [v].length : Nat)) : Int)).toNat = xs.length := by
    simp only [List.length_cons, List.length_nil]
    omega
  rw [this, List.getElem?_append_right (Nat.le_refl _)]
  simp
theorem pu_end {S : Store} {xs : List D} (hS : Pu S) (h : puDs xs = true) : Pu (S ++ [.lst xs]) := hS.push (by simpa [puO] using h)
/-- a new list handed back -/
theorem trim_end {S : Store} {xs : List D} (hS : Pu S) (hx : puDs xs = true) : trim S.length (.ok (.ref S.length) (S ++ [.lst xs])) = .ok (.lst xs) S := by
  show fin S.length (.ref S.length) (S ++ [.lst xs]) = _
  have u : unref S.length (S ++ [.lst xs]) (.ref S.length) = .lst xs := by
    show (if _ then _ else _) = _
    rw [if_pos (Nat.le_refl _), see_end]
  have lx : lowD S.length (.lst xs) = true := low_pu (by simpa using hx)
  unfold fin
  rw [u, lx, List.take_left', if_pos]
  · have := hS.take S.length
    rw [List.take_length] at this
    rw [this]
    rfl
  · rfl
theorem trim_back {S : Store} {o : Ob} {v : D} (hS : Pu S) (ho : puO o = true) (hv : puD v = true) : trim S.length (.ok v (S ++ [o])) = .ok v S := by
  rw [trim_ok hv (hS.push ho), List.take_left']
  rfl
theorem parts_pu (cs : List (Int × Int)) : puDs (cs.map dPart) = true := pus_map dPart (fun x => by simp [dPart]) cs
/-! ### ranges -/
def rI (lo c : Int) : Nat → List Int
  | 0 => []
  | n + 1 => lo :: rI (lo + c) c n
theorem rngN_I : ∀ (n : Nat) (lo c : Int), rngN lo c n = (rI lo c n).map D.int
  | 0, _, _ => rfl
  | n + 1, lo, c => by
    show D.int lo :: rngN (lo + c) c n = _
    rw [rngN_I n (lo + c) c]
    rfl
theorem rI_len : ∀ (n : Nat) (lo c : Int), (rI lo c n).length = n
  | 0, _, _ => rfl
  | n + 1, lo, c => by
    show (rI (lo + c) c n).length + 1 = _
    rw [rI_len n]
theorem rI_mem {c m : Int} (hc : 0 ≤ c) (hm : c ≤ m) : ∀ (n : Nat) (lo : Int), ∀ x ∈ rI lo c n, lo ≤ x ∧ x ≤ lo + n * m
  | 0, _, _, h => by cases h
  | n + 1, lo, x, h => by
    have e : ((n + 1 : Nat) : Int) * m = n * m + m := by rw [Int.natCast_add, Int.add_mul]; simp
    rcases List.mem_cons.mp h with rfl | h
    · have : 0 ≤ (n : Int) * m := Int.mul_nonneg (Int.natCast_nonneg n) (Int.le_trans hc hm)
      rw [e]
      omega
    · obtain ⟨a, b⟩ := rI_mem hc hm n (lo + c) x h
      rw [e]
      omega
def cmpIn (many size step b : Int) : List (Int × Int) := ((rI b 1 (min step (many - b - step)).toNat).filter fun a => decide (a / (2 * size) = (a + step) / (2 * size))).map fun a => (a, a + step)
def cmpF (many size step : Int) : List (Int × Int) := (rI (step % size) (2 * step) (rngC (step % size) (many - step) (2 * step))).flatMap (cmpIn many size step)
def netIn (many size : Int) : Nat → Int → List (Int × Int)
  | 0, _ => []
  | n + 1, step => if 1 ≤ step then cmpF many size step ++ netIn many size n (step / 2) else []
def netOut (many : Int) : Nat → Int → List (Int × Int)
  | 0, _ => []
  | n + 1, size => if size < many then netIn many size 6 size ++ netOut many n (2 * size) else []
def netF (many : Int) : List (Int × Int) := netOut many 6 1
def couIn (many size step : Int) : List (Int × Int) := ((rI 0 1 (if size < many then many - step else 0).toNat).filter fun a => decide (0 ≤ a - step % size) && (decide ((a - step % size) / step % 2 = 0) && decide (a / (2 * size) = (a + step) / (2 * size)))).map fun a => (a, a + step)
def couMid (many size : Int) : Nat → Int → List (Int × Int)
  | 0, _ => []
  | n + 1, step => couIn many size step ++ couMid many size n (step / 2)
def couOut (many : Int) : Nat → Nat → Int → List (Int × Int)
  | 0, _, _ => []
  | n + 1, lv, size => couMid many size (lv + 1) size ++ couOut many n (lv + 1) (2 * size)
def couF (many : Int) : List (Int × Int) := couOut many 5 0 1
theorem net_all : ∀ n : Fin 16, netF ((n.val : Int) + 1) = couF ((n.val : Int) + 1) ∧ (netF ((n.val : Int) + 1)).length ≤ 63 ∧ ∀ c ∈ netF ((n.val : Int) + 1), 0 ≤ c.1 ∧ c.1 < c.2 ∧ c.2 < (n.val : Int) + 1 := by decide +kernel
theorem net_cou {many : Int} (h : 1 ≤ many) (h2 : many ≤ 16) : netF many = couF many ∧ (netF many).length ≤ 63 ∧ ∀ c ∈ netF many, 0 ≤ c.1 ∧ c.1 < c.2 ∧ c.2 < many := by
  have := net_all ⟨(many - 1).toNat, by omega⟩
  dsimp only at this
  rw [show (((many - 1).toNat : Nat) : Int) + 1 = many by omega] at this
  exact this
end Lk53

set_option Elab.async false
set_option maxRecDepth 100000
set_option maxHeartbeats 1000000
namespace Lk53
open Rf
/-! ### compared, network -/
section
variable {k : Nat} {many size step : Int} {S : Store}
theorem half_two (hs : 1 ≤ size) (hs2 : size ≤ 16) (a : Int) : binD .div (.c (.int a)) (.c (.int (2 * size))) = some (.c (.int (a / (2 * size)))) := bin_div ⟨by omega, by omega⟩
theorem two_mul (a : Int) : binD .mul (.c (.int 2)) (.c (.int a)) = some (.c (.int (2 * a))) := bin_mul (mulOk_l (by decide) (by decide))
theorem cmp_in {b : D} (hs : 1 ≤ size) (hs2 : size ≤ 16) : ∀ (xs : List Int) (ds : List D) (x5 : Option D), ds.length + xs.length ≤ 5000 →
    ∃ x5', forL (.nm 5) (execs l.G (l.call k) l.sub b5l0) (xs.map D.int) [some (.int many), some (.int size), some (.int step), some (.ref S.length), some b, x5] (S ++ [.lst ds]) =
      .nx [some (.int many), some (.int size), some (.int step), some (.ref S.length), some b, x5'] (S ++ [.lst (ds ++ ((xs.filter fun a => decide (a / (2 * size) = (a + step) / (2 * size))).map fun a => (a, a + step)).map dPart)])
  | [], ds, x5, _ => ⟨x5, by simp⟩
  | a :: xs, ds, x5, h => by
    rw [List.length_cons] at h
    rw [List.map_cons, forL_cons]
    have ap := app_end (S := S) (xs := ds) (v := .tup [.int a, .int (a + step)]) (by unfold LINE; omega)
    have ok := app_ok (S := S) (xs := ds)
    have d1 := half_two hs hs2 a
    have d2 := half_two hs hs2 (a + step)
    have m := two_mul size
    by_cases hc : a / (2 * size) = (a + step) / (2 * size)
    · obtain ⟨x5', e⟩ := cmp_in hs hs2 xs (ds ++ [dPart (a, a + step)]) (some (.int a)) (by simp; omega)
      have st : execs l.G (l.call k) l.sub b5l0 [some (.int many), some (.int size), some (.int step), some (.ref S.length), some b, some (.int a)] (S ++ [.lst ds]) = .nx [some (.int many), some (.int size), some (.int step), some (.ref S.length), some b, some (.int a)] (S ++ [.lst (ds ++ [dPart (a, a + step)])]) := by
        unfold b5l0
        simp [m, d1, d2, hc, ok, ap, dPart]
      refine ⟨x5', ?_⟩
      simp only [asg_nm, List.length_cons, List.length_nil, List.set_cons_succ, List.set_cons_zero, Nat.zero_add, Nat.reduceAdd, Nat.reduceLT, if_true]
      rw [st]
      rw [List.filter_cons, if_pos (decide_eq_true hc)]
      simpa using e
    · obtain ⟨x5', e⟩ := cmp_in hs hs2 xs ds (some (.int a)) (by omega)
      have st : execs l.G (l.call k) l.sub b5l0 [some (.int many), some (.int size), some (.int step), some (.ref S.length), some b, some (.int a)] (S ++ [.lst ds]) = .nx [some (.int many), some (.int size), some (.int step), some (.ref S.length), some b, some (.int a)] (S ++ [.lst ds]) := by
        unfold b5l0
        simp [m, d1, d2, hc]
      refine ⟨x5', ?_⟩
      simp only [asg_nm, List.length_cons, List.length_nil, List.set_cons_succ, List.set_cons_zero, Nat.zero_add, Nat.reduceAdd, Nat.reduceLT, if_true]
      rw [st]
      rw [List.filter_cons, if_neg (by simpa using hc)]
      simpa using e
theorem cmp_out (hs : 1 ≤ size) (hs2 : size ≤ 16) (ht : 1 ≤ step) (ht2 : step ≤ 16) (hm : 1 ≤ many) (hm2 : many ≤ 16) : ∀ (bs : List Int) (ds : List D) (x4 x5 : Option D), ds.length + bs.length * 20 ≤ 5000 → (∀ b ∈ bs, 0 ≤ b ∧ b ≤ 100000) →
    ∃ x4' x5', forL (.nm 4) (execs l.G (l.call k) l.sub b5l1) (bs.map D.int) [some (.int many), some (.int size), some (.int step), some (.ref S.length), x4, x5] (S ++ [.lst ds]) =
      .nx [some (.int many), some (.int size), some (.int step), some (.ref S.length), x4', x5'] (S ++ [.lst (ds ++ (bs.flatMap (cmpIn many size step)).map dPart)])
  | [], ds, x4, x5, _, _ => ⟨x4, x5, by simp⟩
  | b :: bs, ds, x4, x5, h, hb => by
    rw [List.length_cons] at h
    rw [List.map_cons, forL_cons]
    obtain ⟨b0, b1⟩ := hb b (List.mem_cons_self ..)
    have rg : rngI [.c (.int b), .c (.int (b + (if many - b - step < step then many - b - step else step)))] = some ((rI b 1 (min step (many - b - step)).toNat).map D.int) := by
      have e : (if many - b - step < step then many - b - step else step) = min step (many - b - step) := by
        rw [Int.min_def]
        split <;> split <;> omega
      rw [e]
      show (if _ then _ else _) = _
      rw [if_pos, rngN_I, show b + min step (many - b - step) - b = min step (many - b - step) by omega]
      simp only [small62, LINE, Bool.and_eq_true, decide_eq_true_eq]
      omega
    have ll := rI_len (min step (many - b - step)).toNat b 1
    obtain ⟨y5, e1⟩ := cmp_in (k := k) (many := many) (step := step) (S := S) (b := .int b) hs hs2 (rI b 1 (min step (many - b - step)).toNat) ds x5 (by rw [ll]; omega)
    have st : execs l.G (l.call k) l.sub b5l1 [some (.int many), some (.int size), some (.int step), some (.ref S.length), some (.int b), x5] (S ++ [.lst ds]) = .nx [some (.int many), some (.int size), some (.int step), some (.ref S.length), some (.int b), y5] (S ++ [.lst (ds ++ (cmpIn many size step b).map dPart)]) := by
      unfold b5l1
      have mn : bltD .min [.c (.int step), .c (.int (many - b - step))] = some (.c (.int (if many - b - step < step then many - b - step else step))) := rfl
      simp [mn, rg]
      exact e1
    have cl : (cmpIn many size step b).length ≤ 20 := by
      unfold cmpIn
      rw [List.length_map]
      refine Nat.le_trans (List.length_filter_le _ _) ?_
      rw [ll]
      omega
    obtain ⟨x4', x5', e⟩ := cmp_out hs hs2 ht ht2 hm hm2 bs (ds ++ (cmpIn many size step b).map dPart) (some (.int b)) y5 (by rw [List.length_append, List.length_map]; omega) fun c hc => hb c (List.mem_cons_of_mem _ hc)
    refine ⟨x4', x5', ?_⟩
    simp only [asg_nm, List.length_cons, List.length_nil, List.set_cons_succ, List.set_cons_zero, Nat.zero_add, Nat.reduceAdd, Nat.reduceLT, if_true]
    rw [st]
    simpa using e
theorem rngC_le {i j c : Int} (hc : 1 ≤ c) (hi : 0 ≤ i) (hj : j ≤ 16) : rngC i j c ≤ 17 := by
  unfold rngC
  split
  · have h1 : (j - i - 1) / c ≤ j - i - 1 := Int.ediv_le_self _ (by omega)
    omega
  · omega
theorem cmp_ok (hk : 1 ≤ k) (hS : Pu S) (hs : 1 ≤ size) (hs2 : size ≤ 16) (ht : 1 ≤ step) (ht2 : step ≤ 16) (hm : 1 ≤ many) (hm2 : many ≤ 16) : trim S.length (l.call k 5 [.int many, .int size, .int step] S) = .ok (.lst ((cmpF many size step).map dPart)) S := by
  obtain ⟨k, rfl⟩ : ∃ j, k = j + 1 := ⟨k - 1, by omega⟩
  rw [l.run (d := ⟨6, 3, b5⟩) (σ := [some (.int many), some (.int size), some (.int step), none, none, none]) rfl rfl rfl]
  have m1 := bin_mod (i := step) (j := size) (by omega)
  have m2 := two_mul step
  have p0 : 0 ≤ step % size := Int.emod_nonneg _ (by omega)
  have p1 : step % size < size := Int.emod_lt_of_pos _ (by omega)
  have rc := rngC_le (i := step % size) (j := many - step) (c := 2 * step) (by omega) p0 (by omega)
  have rg : rngI [.c (.int (step % size)), .c (.int (many - step)), .c (.int (2 * step))] = some ((rI (step % size) (2 * step) (rngC (step % size) (many - step) (2 * step))).map D.int) := by
    show (if _ then _ else _) = _
    rw [if_pos, rngN_I]
    simp only [small62, LINE, Bool.and_eq_true, decide_eq_true_eq]
    omega
  have ll := rI_len (rngC (step % size) (many - step) (2 * step)) (step % size) (2 * step)
  obtain ⟨x4, x5, e⟩ := cmp_out (k := k) (S := S) hs hs2 ht ht2 hm hm2 (rI (step % size) (2 * step) (rngC (step % size) (many - step) (2 * step))) [] none none (by rw [ll]; simp; omega) fun b hb => by
    obtain ⟨a, c⟩ := rI_mem (c := 2 * step) (m := 32) (by omega) (by omega) _ _ b hb
    omega
  dsimp only
  unfold b5
  rw [step1]
  simp
  rw [step2]
  simp [m1, m2, rg, e]
  rw [step2]
  simp
  exact trim_end hS (parts_pu _)
end
end Lk53

set_option Elab.async false
set_option maxRecDepth 100000
set_option maxHeartbeats 1000000
namespace Lk53
open Rf
/-! ### forms -/
theorem number_ok {k : Nat} {d : D} {S : Store} (hk : 1 ≤ k) (h : thD d = true) : l.call k 0 [d] S = .ok (.bl (numB d)) S := by
  obtain ⟨k, rfl⟩ : ∃ j, k = j + 1 := ⟨k - 1, by omega⟩
  rw [l.run (d := ⟨1, 1, b0⟩) (σ := [some d]) rfl rfl rfl]
  dsimp only
  unfold b0
  cases d with
  | c k => cases k <;> simp [isiD, typeOfD, numB]
  | tup => simp [isiD, typeOfD, numB]
  | lst => simp [isiD, typeOfD, numB]
  | edc => simp [isiD, typeOfD, numB]
  | _ => simp [thD] at h
theorem index_ok {k : Nat} {d : D} {S : Store} (hk : 2 ≤ k) (hS : Pu S) (h : thD d = true) : l.call k 1 [d] S = .ok (.bl (idxB d)) S := by
  obtain ⟨k, rfl⟩ : ∃ j, k = j + 1 := ⟨k - 1, by omega⟩
  rw [l.run (d := ⟨1, 1, b1⟩) (σ := [some d]) rfl rfl rfl]
  have n := number_ok (k := k) (S := S) (by omega) h
  dsimp only
  unfold b1
  cases d with
  | c k => cases k <;> simp [n, trim_self hS, numB, idxB]
  | tup => simp [n, trim_self hS, numB, idxB]
  | lst => simp [n, trim_self hS, numB, idxB]
  | edc => simp [n, trim_self hS, numB, idxB]
  | _ => simp [thD] at h
def sizedB (d : D) (n : Int) : Bool := match d with
  | .tup xs => decide ((xs.length : Int) = n)
  | _ => false
theorem sized_ok {k : Nat} {d : D} {n : Int} {S : Store} (hk : 1 ≤ k) (h : thD d = true) : l.call k 2 [d, .int n] S = .ok (.bl (sizedB d n)) S := by
  obtain ⟨k, rfl⟩ : ∃ j, k = j + 1 := ⟨k - 1, by omega⟩
  rw [l.run (d := ⟨2, 2, b2⟩) (σ := [some d, some (.int n)]) rfl rfl rfl]
  dsimp only
  unfold b2
  have t := isi_tup h
  cases d with
  | tup xs => simp [t, tupB, sizedB]
  | c k => simp [t, tupB, sizedB]
  | lst => simp [t, tupB, sizedB]
  | edc => simp [t, tupB, sizedB]
  | _ => simp [thD] at h
theorem tupOf_no {k f : Nat} {d : D} {S : Store} (hk : 1 ≤ k) (h : thD d = true) (ht : tupB d = false) : l.call k 3 [d, .fn f] S = .ok (.bl false) S := by
  obtain ⟨k, rfl⟩ : ∃ j, k = j + 1 := ⟨k - 1, by omega⟩
  rw [l.run (d := ⟨3, 2, b3⟩) (σ := [some d, some (.fn f), none]) rfl rfl rfl]
  dsimp only
  unfold b3
  simp [isi_tup h, ht]
/-- all of a tuple -/
theorem tupOf_ok {k f : Nat} {xs : List D} {q : D → Bool} {S : Store} (hk : 1 ≤ k) (hS : Pu S) (h : ∀ x ∈ xs, l.call (k - 1) f [x] S = .ok (.bl (q x)) S) : l.call k 3 [.tup xs, .fn f] S = .ok (.bl (xs.all q)) S := by
  obtain ⟨k, rfl⟩ : ∃ j, k = j + 1 := ⟨k - 1, by omega⟩
  rw [l.run (d := ⟨3, 2, b3⟩) (σ := [some (.tup xs), some (.fn f), none]) rfl rfl rfl]
  dsimp only
  unfold b3
  have t : ∀ g : D → Store → Res (Option D), (∀ x ∈ xs, g x S = .ok (some (.bl (q x))) S) → turns g xs S = .ok (xs.map fun x => D.bl (q x)) S := fun g hg => turns_map (g := fun x => .bl (q x)) hg
  simp [itemsOf]
  rw [t _ fun x hx => by
    have e : l.call k f [x] S = .ok (.bl (q x)) S := h x hx
    simp [cturn, e, trim_self hS]]
  have all := blt_allB q xs
  simp [all]
abbrev dNet (cs : List (Int × Int)) : D := .tup (cs.map dPart)
theorem net_pu (cs : List (Int × Int)) : puD (dNet cs) = true := by simp [parts_pu]
theorem puDs_app {a b : List D} (h : puDs a = true) (h2 : puDs b = true) : puDs (a ++ b) = true := by
  rw [puDs_all] at *
  rw [List.all_append, h, h2]
  rfl
theorem flat_len {α β : Type} {f : α → List β} {m : Nat} (h : ∀ x, (f x).length ≤ m) : ∀ xs : List α, (xs.flatMap f).length ≤ xs.length * m
  | [] => by simp
  | x :: xs => by
    have := h x
    have ih := flat_len h xs
    rw [List.flatMap_cons, List.length_append, List.length_cons, Nat.succ_mul]
    omega
theorem rngA {n : Int} (h : -1000 ≤ n) (h2 : n ≤ 1000) : rngI [.c (.int n)] = some ((rI 0 1 n.toNat).map D.int) := by
  show (if _ then _ else _) = _
  rw [if_pos, rngN_I]
  simp only [small62, LINE, Bool.and_eq_true, decide_eq_true_eq]
  omega
section
variable {k : Nat} {many size : Int} {S : Store}
theorem glb_places : l.G 0 = some (.c (.int 16)) := by rfl
theorem places_ok (hk : 2 ≤ k) (hS : Pu S) (h : 1 ≤ many) (h2 : many ≤ 16) : l.call k 4 [.int many] S = .ok .non S := by
  obtain ⟨k, rfl⟩ : ∃ j, k = j + 1 := ⟨k - 1, by omega⟩
  rw [l.run (d := ⟨1, 1, b4⟩) (σ := [some (.int many)]) rfl rfl rfl]
  have n := trim_pu (n := S.length) (by simp) hS rfl (number_ok (k := k) (d := .int many) (S := S) (by omega) (by simp only [thD, Bool.and_eq_true, decide_eq_true_eq]; omega))
  dsimp only
  unfold b4
  rw [step1]
  have q : ¬ many < 1 := by omega
  have q2 : ¬ 16 < many := by omega
  simp [n, numB, q]
  rw [step2]
  simp [glb_places, q2]
theorem places_bad {d : D} (hk : 2 ≤ k) (hS : Pu S) (hd : thD d = true) (h : numB d = false ∨ ∃ i, d = .int i ∧ i < 1) : l.call k 4 [d] S = .ex ⟨0, []⟩ S := by
  obtain ⟨k, rfl⟩ : ∃ j, k = j + 1 := ⟨k - 1, by omega⟩
  rw [l.run (d := ⟨1, 1, b4⟩) (σ := [some d]) rfl rfl rfl]
  have n := trim_pu (n := S.length) (by simp) hS rfl (number_ok (k := k) (d := d) (S := S) (by omega) hd)
  dsimp only
  unfold b4
  rw [step1]
  rcases h with h | ⟨i, rfl, h⟩
  · simp [n, h]
  · simp [n, numB, h]
theorem cmpF_len (hs : 1 ≤ size) {step : Int} (ht : 1 ≤ step) (ht2 : step ≤ 16) (hm2 : many ≤ 16) : (cmpF many size step).length ≤ 400 := by
  have p0 : 0 ≤ step % size := Int.emod_nonneg _ (by omega)
  have rc := rngC_le (i := step % size) (j := many - step) (c := 2 * step) (by omega) p0 (by omega)
  unfold cmpF
  refine Nat.le_trans (flat_len (m := 20) (fun b => ?_) _) ?_
  · unfold cmpIn
    rw [List.length_map]
    refine Nat.le_trans (List.length_filter_le _ _) ?_
    rw [rI_len]
    omega
  · rw [rI_len]
    omega
theorem net_in (hk : 1 ≤ k) (hS : Pu S) (hs : 1 ≤ size) (hs2 : size ≤ 16) (hm : 1 ≤ many) (hm2 : many ≤ 16) : ∀ (n N : Nat) (step : Int) (ds : List D), n < N → 0 ≤ step → step < 2 ^ n → step ≤ 16 → puDs ds = true → ds.length + n * 400 ≤ 100000 →
    ∃ x3, loop (ev l.G (l.call k) (.cmp .ge (.var 3) (.cst (.int 1)))) (execs l.G (l.call k) l.sub b6l0) N [some (.int many), some (.ref S.length), some (.int size), some (.int step)] (S ++ [.lst ds]) =
      .nx [some (.int many), some (.ref S.length), some (.int size), x3] (S ++ [.lst (ds ++ (netIn many size n step).map dPart)])
  | n, 0, _, _, h, _, _, _, _, _ => absurd h (by omega)
  | 0, N + 1, step, ds, _, h0, h1, _, _, _ => by
    obtain rfl : step = 0 := by simp at h1; omega
    refine ⟨some (.int 0), ?_⟩
    rw [loop_succ]
    simp [netIn]
  | n + 1, N + 1, step, ds, h, h0, h1, h2, hd, hl => by
    rw [loop_succ]
    by_cases hc : 1 ≤ step
    · have cf := cmpF_len (many := many) hs hc h2 hm2
      have co := cmp_ok (k := k) (many := many) (size := size) (step := step) (S := S ++ [.lst ds]) hk (pu_end hS hd) hs hs2 hc h2 hm hm2
      simp only [List.length_append, List.length_cons, List.length_nil, Nat.zero_add] at co
      have ok := ext_ok (S := S) (xs := ds)
      have ex := ext_end (S := S) (xs := ds) (vs := (cmpF many size step).map dPart) (by rw [List.length_map]; unfold LINE; omega)
      have dv := bin_div (i := step) (j := 2) (by decide)
      have pw : (2 : Int) ^ (n + 1) = 2 ^ n * 2 := Int.pow_succ ..
      obtain ⟨x3, e⟩ := net_in hk hS hs hs2 hm hm2 n N (step / 2) (ds ++ (cmpF many size step).map dPart) (by omega) (by omega) (by omega) (by omega) (puDs_app hd (parts_pu _)) (by rw [List.length_append, List.length_map]; omega)
      refine ⟨x3, ?_⟩
      have st : execs l.G (l.call k) l.sub b6l0 [some (.int many), some (.ref S.length), some (.int size), some (.int step)] (S ++ [.lst ds]) = .nx [some (.int many), some (.ref S.length), some (.int size), some (.int (step / 2))] (S ++ [.lst (ds ++ (cmpF many size step).map dPart)]) := by
        unfold b6l0
        rw [step1]
        simp [ok, co, ex]
        rw [step2]
        simp [dv]
      have ni : netIn many size (n + 1) step = cmpF many size step ++ netIn many size n (step / 2) := if_pos hc
      rw [ni]
      simp [hc, st]
      simpa using e
    · have ni : netIn many size (n + 1) step = [] := if_neg hc
      refine ⟨some (.int step), ?_⟩
      rw [ni]
      simp [hc]
theorem netIn_len (hs : 1 ≤ size) (hm2 : many ≤ 16) : ∀ (n : Nat) (step : Int), step ≤ 16 → (netIn many size n step).length ≤ n * 400
  | 0, _, _ => by simp [netIn]
  | n + 1, step, h => by
    unfold netIn
    split
    · rename_i hc
      have cf := cmpF_len (many := many) hs hc h hm2
      have ih := netIn_len hs hm2 n (step / 2) (by omega)
      rw [List.length_append, Nat.succ_mul]
      omega
    · simp
theorem fuel6 : 6 < FUEL := by unfold FUEL; omega
theorem net_out (hk : 1 ≤ k) (hS : Pu S) (hm : 1 ≤ many) (hm2 : many ≤ 16) : ∀ (n N : Nat) (size : Int) (ds : List D) (x3 : Option D), n < N → 1 ≤ size → 16 ≤ size * 2 ^ n → puDs ds = true → ds.length + n * 2400 ≤ 50000 →
    ∃ x2 x3', loop (ev l.G (l.call k) (.cmp .lt (.var 2) (.var 0))) (execs l.G (l.call k) l.sub b6l1) N [some (.int many), some (.ref S.length), some (.int size), x3] (S ++ [.lst ds]) =
      .nx [some (.int many), some (.ref S.length), x2, x3'] (S ++ [.lst (ds ++ (netOut many n size).map dPart)])
  | n, 0, _, _, _, h, _, _, _, _ => absurd h (by omega)
  | 0, N + 1, size, ds, x3, _, h0, h1, _, _ => by
    refine ⟨some (.int size), x3, ?_⟩
    have q : ¬ size < many := by rw [Int.pow_zero] at h1; omega
    rw [loop_succ]
    simp [netOut, q]
  | n + 1, N + 1, size, ds, x3, h, h0, h1, hd, hl => by
    rw [loop_succ]
    by_cases hc : size < many
    · obtain ⟨M, hM⟩ : ∃ M, FUEL = M := ⟨_, rfl⟩
      have fu : 6 < M := hM ▸ fuel6
      have a1 : size ≤ 16 := Int.le_trans (Int.le_of_lt hc) hm2
      have a2 : size < 2 ^ 6 := Int.lt_of_le_of_lt a1 (by decide)
      have a3 : (0 : Int) ≤ size := Int.le_trans (by decide) h0
      have a40 : ds.length + 2400 ≤ 100000 := by omega
      have a4 : ds.length + 6 * 400 ≤ 100000 := a40
      obtain ⟨y3, e1⟩ := net_in (k := k) (S := S) (many := many) (size := size) hk hS h0 a1 hm hm2 6 M size ds fu a3 a2 a1 hd a4
      have nl : (netIn many size 6 size).length ≤ 2400 := netIn_len (many := many) h0 hm2 6 size a1
      have m2 := two_mul size
      obtain ⟨x2, x3', e⟩ := net_out hk hS hm hm2 n N (2 * size) (ds ++ (netIn many size 6 size).map dPart) y3 (by omega) (by omega) (by rw [Int.pow_succ] at h1; rw [Int.mul_comm 2 size, Int.mul_assoc, Int.mul_comm 2]; exact h1) (puDs_app hd (parts_pu _)) (by rw [List.length_append, List.length_map]; omega)
      refine ⟨x2, x3', ?_⟩
      have st : execs l.G (l.call k) l.sub b6l1 [some (.int many), some (.ref S.length), some (.int size), x3] (S ++ [.lst ds]) = .nx [some (.int many), some (.ref S.length), some (.int (2 * size)), y3] (S ++ [.lst (ds ++ (netIn many size 6 size).map dPart)]) := by
        unfold b6l1
        rw [step1]
        simp
        rw [step2]
        simp only [ex_whil, hM]
        rw [e1, next_nx, step2]
        simp [m2]
      have ni : netOut many (n + 1) size = netIn many size 6 size ++ netOut many n (2 * size) := if_pos hc
      rw [ni]
      simp [hc, st]
      simpa using e
    · have ni : netOut many (n + 1) size = [] := if_neg hc
      refine ⟨some (.int size), x3, ?_⟩
      rw [ni]
      simp [hc]
end
end Lk53

set_option Elab.async false
set_option maxRecDepth 100000
set_option maxHeartbeats 1000000
namespace Lk53
open Rf
section
variable {k : Nat} {many size step : Int} {S : Store}
theorem fuelAt {n : Nat} (h : n ≤ 100) : n < FUEL := by unfold FUEL; omega
theorem network_ok (hk : 3 ≤ k) (hS : Pu S) (hm : 1 ≤ many) (hm2 : many ≤ 16) : trim S.length (l.call k 6 [.int many] S) = .ok (dNet (netF many)) S := by
  obtain ⟨k, rfl⟩ : ∃ j, k = j + 1 := ⟨k - 1, by omega⟩
  rw [l.run (d := ⟨4, 1, b6⟩) (σ := [some (.int many), none, none, none]) rfl rfl rfl]
  have pl := trim_pu (n := S.length) (by simp) hS rfl (places_ok (k := k) (S := S) (by omega) hS hm hm2)
  obtain ⟨M, hM⟩ : ∃ M, FUEL = M := ⟨_, rfl⟩
  have fu : 6 < M := hM ▸ fuel6
  obtain ⟨x2, x3, e⟩ := net_out (k := k) (S := S) (by omega) hS hm hm2 6 M 1 [] none fu (by decide) (by decide) rfl (by decide)
  dsimp only
  unfold b6
  rw [step1]
  simp [pl]
  rw [step2]
  simp
  rw [step2]
  simp only [ex_whil, hM]
  rw [e, next_nx, step2]
  simp [see_end]
  exact trim_back hS (by simp [puO, parts_pu]) (net_pu _)
theorem cou_in {lv hf : D} (hs : 1 ≤ size) (hs2 : size ≤ 16) (ht : 1 ≤ step) (ht2 : step ≤ 16) : ∀ (xs : List Int) (ds : List D) (x6 x7 : Option D), ds.length + xs.length ≤ 5000 →
    ∃ x6' x7', forL (.nm 6) (execs l.G (l.call k) l.sub b21l0) (xs.map D.int) [some (.int many), some (.ref S.length), some (.int size), some lv, some (.int step), some hf, x6, x7] (S ++ [.lst ds]) =
      .nx [some (.int many), some (.ref S.length), some (.int size), some lv, some (.int step), some hf, x6', x7'] (S ++ [.lst (ds ++ ((xs.filter fun a => decide (0 ≤ a - step % size) && (decide ((a - step % size) / step % 2 = 0) && decide (a / (2 * size) = (a + step) / (2 * size)))).map fun a => (a, a + step)).map dPart)])
  | [], ds, x6, x7, _ => ⟨x6, x7, by simp⟩
  | a :: xs, ds, x6, x7, h => by
    rw [List.length_cons] at h
    rw [List.map_cons, forL_cons]
    have ap := app_end (S := S) (xs := ds) (v := .tup [.int a, .int (a + step)]) (by unfold LINE; omega)
    have ok := app_ok (S := S) (xs := ds)
    have d1 := half_two hs hs2 a
    have d2 := half_two hs hs2 (a + step)
    have m := two_mul size
    have md := bin_mod (i := step) (j := size) (by omega)
    have dv := bin_div (i := a - step % size) (j := step) ⟨by omega, by omega⟩
    have m2 := bin_mod (i := (a - step % size) / step) (j := 2) (by decide)
    generalize hq : (decide (0 ≤ a - step % size) && (decide ((a - step % size) / step % 2 = 0) && decide (a / (2 * size) = (a + step) / (2 * size)))) = q
    have st : execs l.G (l.call k) l.sub b21l0 [some (.int many), some (.ref S.length), some (.int size), some lv, some (.int step), some hf, some (.int a), x7] (S ++ [.lst ds]) = .nx [some (.int many), some (.ref S.length), some (.int size), some lv, some (.int step), some hf, some (.int a), some (.int (a - step % size))] (S ++ [.lst (if q = true then ds ++ [dPart (a, a + step)] else ds)]) := by
      unfold b21l0
      rw [step1]
      simp [md]
      rw [step2]
      by_cases h1 : 0 ≤ a - step % size
      · have h1' := Int.sub_nonneg.mp h1
        by_cases h2 : (a - step % size) / step % 2 = 0
        · by_cases h3 : a / (2 * size) = (a + step) / (2 * size)
          · obtain rfl : q = true := by rw [← hq, decide_eq_true h1, decide_eq_true h2, decide_eq_true h3]; rfl
            simp only [ex_ife, ev_and, ev_cmp, ev_bin, ev_var, ev_cst]
            simp [h1', h2, h3, dv, m2, m, d1, d2, ok, ap, dPart]
          · obtain rfl : q = false := by rw [← hq, decide_eq_false h3]; simp
            simp [h1', h2, h3, dv, m2, m, d1, d2]
        · obtain rfl : q = false := by rw [← hq, decide_eq_false h2]; simp
          simp [h1', h2, dv, m2]
      · obtain rfl : q = false := by rw [← hq, decide_eq_false h1]; simp
        have h1' : ¬ step % size ≤ a := fun z => h1 (Int.sub_nonneg.mpr z)
        simp [h1']
    simp only [asg_nm, List.length_cons, List.length_nil, List.set_cons_succ, List.set_cons_zero, Nat.zero_add, Nat.reduceAdd, Nat.reduceLT, if_true]
    rw [st, List.filter_cons]
    cases q with
    | true =>
      obtain ⟨x6', x7', e⟩ := cou_in hs hs2 ht ht2 xs (ds ++ [dPart (a, a + step)]) (some (.int a)) (some (.int (a - step % size))) (by simp; omega)
      refine ⟨x6', x7', ?_⟩
      rw [if_pos hq, if_pos rfl]
      simpa using e
    | false =>
      obtain ⟨x6', x7', e⟩ := cou_in hs hs2 ht ht2 xs ds (some (.int a)) (some (.int (a - step % size))) (by omega)
      refine ⟨x6', x7', ?_⟩
      rw [if_neg (Bool.false_ne_true), if_neg (fun z => by have := hq.symm.trans z; cases this)]
      simpa using e
theorem couIn_len (ht : 1 ≤ step) (hm2 : many ≤ 16) : (couIn many size step).length ≤ 20 := by
  unfold couIn
  rw [List.length_map]
  refine Nat.le_trans (List.length_filter_le _ _) ?_
  rw [rI_len]
  split <;> omega
theorem cou_mid {lv : D} (hs : 1 ≤ size) (hs2 : size ≤ 16) (hm : 1 ≤ many) (hm2 : many ≤ 16) : ∀ (xs : List Int) (step : Int) (ds : List D) (x5 x6 x7 : Option D), (2 : Int) ^ xs.length ≤ 2 * step + 1 → step ≤ 16 → ds.length + xs.length * 20 ≤ 4000 →
    ∃ x4' x5' x6' x7', forL (.nm 5) (execs l.G (l.call k) l.sub b21l1) (xs.map D.int) [some (.int many), some (.ref S.length), some (.int size), some lv, some (.int step), x5, x6, x7] (S ++ [.lst ds]) =
      .nx [some (.int many), some (.ref S.length), some (.int size), some lv, some x4', x5', x6', x7'] (S ++ [.lst (ds ++ (couMid many size xs.length step).map dPart)])
  | [], step, ds, x5, x6, x7, _, _, _ => ⟨.int step, x5, x6, x7, by simp [couMid]⟩
  | a :: xs, step, ds, x5, x6, x7, hp, h2, h => by
    rw [List.length_cons] at h hp
    rw [Int.pow_succ] at hp
    have pp : (0 : Int) < 2 ^ xs.length := Int.pow_pos (by decide)
    have t1 : 1 ≤ step := by omega
    rw [List.map_cons, forL_cons]
    have cl := couIn_len (many := many) (size := size) t1 hm2
    have dv := bin_div (i := step) (j := 2) (by decide)
    have rg := rngA (n := if size < many then many - step else 0) (by split <;> omega) (by split <;> omega)
    obtain ⟨y6, y7, e1⟩ := cou_in (k := k) (many := many) (step := step) (S := S) (lv := lv) (hf := .int a) hs hs2 t1 h2 (rI 0 1 (if size < many then many - step else 0).toNat) ds x6 x7 (by rw [rI_len]; split <;> omega)
    obtain ⟨x4', x5', x6', x7', e⟩ := cou_mid (lv := lv) hs hs2 hm hm2 xs (step / 2) (ds ++ (couIn many size step).map dPart) (some (.int a)) y6 y7 (by omega) (by omega) (by rw [List.length_append, List.length_map]; omega)
    have st : execs l.G (l.call k) l.sub b21l1 [some (.int many), some (.ref S.length), some (.int size), some lv, some (.int step), some (.int a), x6, x7] (S ++ [.lst ds]) = .nx [some (.int many), some (.ref S.length), some (.int size), some lv, some (.int (step / 2)), some (.int a), y6, y7] (S ++ [.lst (ds ++ (couIn many size step).map dPart)]) := by
      unfold b21l1
      rw [step1]
      have ei : evi l.G (l.call k) (.rng (.cons (.ite (.cmp .lt (.var 2) (.var 0)) (.bin .sub (.var 0) (.var 4)) (.cst (.int 0))) .nil)) [some (.int many), some (.ref S.length), some (.int size), some lv, some (.int step), some (.int a), x6, x7] (S ++ [.lst ds]) = .ok ((rI 0 1 (if size < many then many - step else 0).toNat).map D.int) (S ++ [.lst ds]) := by
        by_cases hc : size < many
        · rw [if_pos hc] at rg ⊢
          simp [hc, rg]
        · rw [if_neg hc] at rg ⊢
          simp only [evi_rng, evs_cons, evs_nil, ev_ite, ev_cmp, ev_var, ev_cst]
          simp [hc, rg]
      rw [ex_for, ei]
      show ((forL _ _ _ _ _).next _) = _
      rw [e1, next_nx, step2]
      simp [dv, couIn]
    refine ⟨x4', x5', x6', x7', ?_⟩
    simp only [asg_nm, List.length_cons, List.length_nil, List.set_cons_succ, List.set_cons_zero, Nat.zero_add, Nat.reduceAdd, Nat.reduceLT, if_true]
    rw [st]
    simpa [couMid] using e
end
end Lk53

set_option Elab.async false
set_option maxRecDepth 100000
set_option maxHeartbeats 1000000
namespace Lk53
open Rf
theorem rest_nx {G : Nat → Option D} {F : Cl} {sub : Nat → Nat → Bool} {a : St} {r : Sts} {σ σ' : Env} {S S' : Store} (h : exec G F sub a σ S = .nx σ' S') : rest G F sub (.cons a r) σ S = rest G F sub r σ' S' := by
  rw [step2, h]
  rfl
theorem exs_nx {G : Nat → Option D} {F : Cl} {sub : Nat → Nat → Bool} {a : St} {r : Sts} {σ σ' : Env} {S S' : Store} (h : exec G F sub a σ S = .nx σ' S') : execs G F sub (.cons a r) σ S = rest G F sub r σ' S' := by
  rw [step1, h]
  rfl
theorem rest_ret {G : Nat → Option D} {F : Cl} {sub : Nat → Nat → Bool} {a : St} {r : Sts} {σ : Env} {S S' : Store} {d : D} (h : exec G F sub a σ S = .ret d S') : rest G F sub (.cons a r) σ S = .ret d S' := by
  rw [step2, h]
  rfl
theorem lev_ev {k lv : Nat} {many size : Int} {S : Store} {ds : List D} {x5 x6 x7 : Option D} : ev l.G (l.call k) (.bin .add (.var 3) (.cst (.int 1))) [some (.int many), some (.ref S.length), some (.int size), some (.int (lv : Int)), some (.int size), x5, x6, x7] (S ++ [.lst ds]) = .ok (.c (.int ((lv : Int) + 1))) (S ++ [.lst ds]) := by
  generalize (lv : Int) = z
  simp
theorem lev_rg {lv : Nat} (h : lv ≤ 10) : rngI [.c (.int ((lv : Int) + 1))] = some ((rI 0 1 (lv + 1)).map D.int) := by
  rw [rngA (n := (lv : Int) + 1) (by omega) (by omega), show ((lv : Int) + 1).toNat = lv + 1 by omega]
theorem lev_rng {k : Nat} {z many size : Int} {S : Store} {ds : List D} {x5 x6 x7 : Option D} {Y : List D} (rg : rngI [.c (.int (z + 1))] = some Y) (hv : ev l.G (l.call k) (.bin .add (.var 3) (.cst (.int 1))) [some (.int many), some (.ref S.length), some (.int size), some (.int z), some (.int size), x5, x6, x7] (S ++ [.lst ds]) = .ok (.c (.int (z + 1))) (S ++ [.lst ds])) : evi l.G (l.call k) (.rng (.cons (.bin .add (.var 3) (.cst (.int 1))) .nil)) [some (.int many), some (.ref S.length), some (.int size), some (.int z), some (.int size), x5, x6, x7] (S ++ [.lst ds]) = .ok Y (S ++ [.lst ds]) := by
  rw [evi_rng, evs_cons, hv]
  simp only [bind_ok, evs_nil]
  rw [rg]
  rfl
section
variable {k : Nat} {many : Int} {S : Store}
theorem couMid_len (size : Int) (hm2 : many ≤ 16) : ∀ (n : Nat) (step : Int), (2 : Int) ^ n ≤ 2 * step + 1 → (couMid many size n step).length ≤ n * 20
  | 0, _, _ => by simp [couMid]
  | n + 1, step, h => by
    rw [Int.pow_succ] at h
    have pp : (0 : Int) < 2 ^ n := Int.pow_pos (by decide)
    have a := couIn_len (many := many) (size := size) (step := step) (by omega) hm2
    have ih := couMid_len size hm2 n (step / 2) (by omega)
    unfold couMid
    rw [List.length_append, Nat.succ_mul]
    omega
theorem cou_lev {lv : Nat} {size : Int} {ds : List D} {x3 x4 x5 x6 x7 : Option D} (xs : List D) (hm : 1 ≤ many) (hm2 : many ≤ 16) (s1 : 1 ≤ size) (s2 : size ≤ 16) (sz : (2 : Int) ^ (lv + 1) ≤ 2 * size + 1) (hlv : lv ≤ 10) (hl : ds.length ≤ 1000) :
    ∃ x4' x5' x6' x7', forL (.nm 3) (execs l.G (l.call k) l.sub b21l2) (.int (lv : Int) :: xs) [some (.int many), some (.ref S.length), some (.int size), x3, x4, x5, x6, x7] (S ++ [.lst ds]) =
      forL (.nm 3) (execs l.G (l.call k) l.sub b21l2) xs [some (.int many), some (.ref S.length), some (.int (2 * size)), some (.int (lv : Int)), x4', x5', x6', x7'] (S ++ [.lst (ds ++ (couMid many size (lv + 1) size).map dPart)]) := by
  have ll := rI_len (lv + 1) 0 1
  have rg := lev_rg hlv
  obtain ⟨y4, y5, y6, y7, e1⟩ := cou_mid (k := k) (S := S) (lv := .int (lv : Int)) s1 s2 hm hm2 (rI 0 1 (lv + 1)) size ds x5 x6 x7 (by rw [ll]; exact sz) s2 (by rw [ll]; omega)
  rw [ll] at e1
  have m2 := two_mul size
  refine ⟨some y4, y5, y6, y7, ?_⟩
  have st : execs l.G (l.call k) l.sub b21l2 [some (.int many), some (.ref S.length), some (.int size), some (.int (lv : Int)), x4, x5, x6, x7] (S ++ [.lst ds]) = .nx [some (.int many), some (.ref S.length), some (.int (2 * size)), some (.int (lv : Int)), some y4, y5, y6, y7] (S ++ [.lst (ds ++ (couMid many size (lv + 1) size).map dPart)]) := by
    unfold b21l2
    have ei := lev_rng (k := k) (many := many) (size := size) (S := S) (ds := ds) (x5 := x5) (x6 := x6) (x7 := x7) rg (lev_ev (lv := lv))
    have s0 : exec l.G (l.call k) l.sub (.set (.nm 4) (.var 2)) [some (.int many), some (.ref S.length), some (.int size), some (.int (lv : Int)), x4, x5, x6, x7] (S ++ [.lst ds]) = .nx [some (.int many), some (.ref S.length), some (.int size), some (.int (lv : Int)), some (.int size), x5, x6, x7] (S ++ [.lst ds]) := by simp
    have s1 : exec l.G (l.call k) l.sub (.for_ (.nm 5) (.rng (.cons (.bin .add (.var 3) (.cst (.int 1))) .nil)) b21l1) [some (.int many), some (.ref S.length), some (.int size), some (.int (lv : Int)), some (.int size), x5, x6, x7] (S ++ [.lst ds]) = .nx [some (.int many), some (.ref S.length), some (.int size), some (.int (lv : Int)), some y4, y5, y6, y7] (S ++ [.lst (ds ++ (couMid many size (lv + 1) size).map dPart)]) := by
      rw [ex_for, ei, out_ok, e1]
    rw [exs_nx s0, rest_nx s1, step2]
    simp [m2]
  rw [forL_cons]
  simp only [asg_nm, List.length_cons, List.length_nil, List.set_cons_succ, List.set_cons_zero, Nat.zero_add, Nat.reduceAdd, Nat.reduceLT, if_true]
  rw [st, turn_nx]
theorem cou_out (hm : 1 ≤ many) (hm2 : many ≤ 16) : ∃ x2' x3' x4' x5' x6' x7', forL (.nm 3) (execs l.G (l.call k) l.sub b21l2) [.int ((0 : Nat) : Int), .int ((1 : Nat) : Int), .int ((2 : Nat) : Int), .int ((3 : Nat) : Int), .int ((4 : Nat) : Int)] [some (.int many), some (.ref S.length), some (.int 1), none, none, none, none, none] (S ++ [.lst []]) =
      .nx [some (.int many), some (.ref S.length), x2', x3', x4', x5', x6', x7'] (S ++ [.lst ((couF many).map dPart)]) := by
  have l0 := couMid_len (many := many) 1 hm2 1 1 (by decide)
  have l1 := couMid_len (many := many) 2 hm2 2 2 (by decide)
  have l2 := couMid_len (many := many) 4 hm2 3 4 (by decide)
  have l3 := couMid_len (many := many) 8 hm2 4 8 (by decide)
  obtain ⟨a4, a5, a6, a7, e0⟩ := cou_lev (k := k) (S := S) (many := many) (lv := 0) (size := 1) (ds := []) (x3 := none) (x4 := none) (x5 := none) (x6 := none) (x7 := none) [.int ((1 : Nat) : Int), .int ((2 : Nat) : Int), .int ((3 : Nat) : Int), .int ((4 : Nat) : Int)] hm hm2 (by decide) (by decide) (by decide) (by decide) (by decide)
  obtain ⟨b4, b5, b6, b7, e1⟩ := cou_lev (k := k) (S := S) (many := many) (lv := 1) (size := 2) (ds := [] ++ (couMid many 1 1 1).map dPart) (x3 := some (.int ((0 : Nat) : Int))) (x4 := a4) (x5 := a5) (x6 := a6) (x7 := a7) [.int ((2 : Nat) : Int), .int ((3 : Nat) : Int), .int ((4 : Nat) : Int)] hm hm2 (by decide) (by decide) (by decide) (by decide) (by simp only [List.length_append, List.length_map, List.length_nil]; omega)
  obtain ⟨c4, c5, c6, c7, e2⟩ := cou_lev (k := k) (S := S) (many := many) (lv := 2) (size := 4) (ds := [] ++ (couMid many 1 1 1).map dPart ++ (couMid many 2 2 2).map dPart) (x3 := some (.int ((1 : Nat) : Int))) (x4 := b4) (x5 := b5) (x6 := b6) (x7 := b7) [.int ((3 : Nat) : Int), .int ((4 : Nat) : Int)] hm hm2 (by decide) (by decide) (by decide) (by decide) (by simp only [List.length_append, List.length_map, List.length_nil]; omega)
  obtain ⟨d4, d5, d6, d7, e3⟩ := cou_lev (k := k) (S := S) (many := many) (lv := 3) (size := 8) (ds := [] ++ (couMid many 1 1 1).map dPart ++ (couMid many 2 2 2).map dPart ++ (couMid many 4 3 4).map dPart) (x3 := some (.int ((2 : Nat) : Int))) (x4 := c4) (x5 := c5) (x6 := c6) (x7 := c7) [.int ((4 : Nat) : Int)] hm hm2 (by decide) (by decide) (by decide) (by decide) (by simp only [List.length_append, List.length_map, List.length_nil]; omega)
  obtain ⟨f4, f5, f6, f7, e4⟩ := cou_lev (k := k) (S := S) (many := many) (lv := 4) (size := 16) (ds := [] ++ (couMid many 1 1 1).map dPart ++ (couMid many 2 2 2).map dPart ++ (couMid many 4 3 4).map dPart ++ (couMid many 8 4 8).map dPart) (x3 := some (.int ((3 : Nat) : Int))) (x4 := d4) (x5 := d5) (x6 := d6) (x7 := d7) [] hm hm2 (by decide) (by decide) (by decide) (by decide) (by simp only [List.length_append, List.length_map, List.length_nil]; omega)
  refine ⟨some (.int (2 * 16)), some (.int ((4 : Nat) : Int)), f4, f5, f6, f7, ?_⟩
  rw [e0]
  rw [show (2 * 1 : Int) = 2 from rfl, e1, show (2 * 2 : Int) = 4 from rfl, e2, show (2 * 4 : Int) = 8 from rfl, e3, show (2 * 8 : Int) = 16 from rfl, e4, forL_nil]
  have cf : couF many = couMid many 1 1 1 ++ (couMid many 2 2 2 ++ (couMid many 4 3 4 ++ (couMid many 8 4 8 ++ (couMid many 16 5 16 ++ [])))) := rfl
  rw [cf]
  simp only [List.map_append, List.nil_append, List.append_nil, List.append_assoc, List.map_nil]
theorem couples_ok (hk : 1 ≤ k) (hS : Pu S) (hm : 1 ≤ many) (hm2 : many ≤ 16) : trim S.length (l.call k 21 [.int many] S) = .ok (dNet (couF many)) S := by
  obtain ⟨k, rfl⟩ : ∃ j, k = j + 1 := ⟨k - 1, by omega⟩
  rw [l.run (d := ⟨8, 1, b21⟩) (σ := [some (.int many), none, none, none, none, none, none, none]) rfl rfl rfl]
  obtain ⟨x2, x3, x4, x5, x6, x7, e⟩ := cou_out (k := k) (S := S) hm hm2
  have rg : rngI [.c (.int 5)] = some [.int ((0 : Nat) : Int), .int ((1 : Nat) : Int), .int ((2 : Nat) : Int), .int ((3 : Nat) : Int), .int ((4 : Nat) : Int)] := rfl
  dsimp only
  unfold b21
  rw [step1]
  simp
  rw [step2, ex_for]
  have ei : evi l.G (l.call k) (.rng (.cons (.cst (.int 5)) .nil)) [some (.int many), some (.ref S.length), some (.int 1), none, none, none, none, none] (S ++ [.lst []]) = .ok [.int ((0 : Nat) : Int), .int ((1 : Nat) : Int), .int ((2 : Nat) : Int), .int ((3 : Nat) : Int), .int ((4 : Nat) : Int)] (S ++ [.lst []]) := by
    simp only [evi_rng, evs_cons, evs_nil, ev_cst]
    show lift (rngI [.c (.int 5)]) _ = _
    rw [rg]
    rfl
  rw [ei]
  rw [out_ok, e, next_nx, step2]
  simp [see_end]
  exact trim_back hS (by simp [puO, parts_pu]) (net_pu _)
end
end Lk53

set_option Elab.async false
set_option maxRecDepth 100000
set_option maxHeartbeats 1000000
namespace Lk53
open Rf
/-! ### the law's words -/
theorem lst_eq (ys : List D) : cmpD .eq (.lst ys) (.lst []) = some ys.isEmpty := by
  show eqD? _ _ = _
  unfold eqD?
  rw [show Rf.eqOk (.lst []) = true from by decide]
  cases ys with
  | nil => rfl
  | cons d ds =>
    cases Rf.eqOk (.lst (d :: ds)) <;> simp [eqD, eqDs, eqS]
theorem lst_ne (ys : List D) : cmpD .ne (.lst ys) (.lst []) = some (!ys.isEmpty) := by
  show (cmpD .eq _ _).map (!·) = _
  rw [lst_eq]
  rfl
theorem fil_emp {α : Type} (q : α → Bool) : ∀ ys : List α, (ys.filter fun x => !q x).isEmpty = ys.all q
  | [] => rfl
  | y :: ys => by
    rw [List.filter_cons, List.all_cons, ← fil_emp q ys]
    cases q y <;> simp
theorem tup_of {d : D} (h : tupB d = true) : ∃ xs, d = .tup xs := by
  unfold tupB at h
  split at h
  · exact ⟨_, rfl⟩
  · cases h
theorem lint_ok {k : Nat} {d : D} {S : Store} (hk : 1 ≤ k) (h : thD d = true) : l.call k 16 [d] S = .ok (.bl (numB d)) S := by
  obtain ⟨k, rfl⟩ : ∃ j, k = j + 1 := ⟨k - 1, by omega⟩
  rw [l.run (d := ⟨1, 1, b16⟩) (σ := [some d]) rfl rfl rfl]
  dsimp only
  unfold b16
  cases d with
  | c k => cases k <;> simp [isiD, typeOfD, numB]
  | tup => simp [isiD, typeOfD, numB]
  | lst => simp [isiD, typeOfD, numB]
  | edc => simp [isiD, typeOfD, numB]
  | _ => simp [thD] at h
theorem lindex_ok {k : Nat} {d : D} {S : Store} (hk : 2 ≤ k) (hS : Pu S) (h : thD d = true) : l.call k 17 [d] S = .ok (.bl (idxB d)) S := by
  obtain ⟨k, rfl⟩ : ∃ j, k = j + 1 := ⟨k - 1, by omega⟩
  rw [l.run (d := ⟨1, 1, b17⟩) (σ := [some d]) rfl rfl rfl]
  have n := lint_ok (k := k) (S := S) (by omega) h
  dsimp only
  unfold b17
  cases d with
  | c k => cases k <;> simp [n, numB, trim_self hS, idxB]
  | tup => simp [n, numB, trim_self hS, idxB]
  | lst => simp [n, numB, trim_self hS, idxB]
  | edc => simp [n, numB, trim_self hS, idxB]
  | _ => simp [thD] at h
/-! ### the form of a system -/
def allB (q : D → Bool) : D → Bool
  | .tup xs => xs.all q
  | _ => false
theorem tupOf_all {k f : Nat} {d : D} {q : D → Bool} {S : Store} (hk : 1 ≤ k) (hS : Pu S) (hd : thD d = true) (h : ∀ x, thD x = true → l.call (k - 1) f [x] S = .ok (.bl (q x)) S) : l.call k 3 [d, .fn f] S = .ok (.bl (allB q d)) S := by
  by_cases ht : tupB d = true
  · obtain ⟨xs, rfl⟩ : ∃ xs, d = .tup xs := by
      unfold tupB at ht
      split at ht
      · exact ⟨_, rfl⟩
      · cases ht
    exact tupOf_ok hk hS fun x hx => h x ((thD_tup.mp hd).2 x hx)
  · have ht : tupB d = false := by simpa using ht
    rw [tupOf_no hk hd ht]
    cases d <;> first | rfl | (simp [tupB] at ht)
theorem idx_int {d : D} (h : idxB d = true) : ∃ i, d = .int i ∧ 0 ≤ i := by
  unfold idxB at h
  split at h
  · exact ⟨_, rfl, of_decide_eq_true h⟩
  · cases h
theorem all_ints {d : D} (h : allB idxB d = true) : ∃ xs, d = dInts xs ∧ ∀ x ∈ xs, 0 ≤ x := by
  unfold allB at h
  split at h
  · rename_i ds
    rw [List.all_eq_true] at h
    obtain ⟨xs, e, hx⟩ : ∃ xs : List Int, ds = xs.map D.int ∧ ∀ x ∈ xs, 0 ≤ x := by
      induction ds with
      | nil => exact ⟨[], rfl, fun x hx => by cases hx⟩
      | cons y ys ih =>
        obtain ⟨i, rfl, hi⟩ := idx_int (h y List.mem_cons_self)
        obtain ⟨xs, rfl, hx⟩ := ih fun z hz => h z (List.mem_cons_of_mem _ hz)
        refine ⟨i :: xs, rfl, fun x hm => ?_⟩
        rcases List.mem_cons.mp hm with rfl | hm
        · exact hi
        · exact hx x hm
    rw [e]
    exact ⟨xs, rfl, hx⟩
  · cases h
/-! ### couples and networks as things -/
def cpB (many : Int) : D → Bool
  | .tup [.c (.int a), .c (.int b)] => decide (0 ≤ a) && (decide (0 ≤ b) && (decide (a < b) && decide (b < many)))
  | _ => false
theorem cp_no {many : Int} {d : D} (h : sizedB d 2 = false) : cpB many d = false := by
  unfold cpB
  split
  · simp [sizedB] at h
  · rfl
theorem cp_idx {many : Int} {a b : D} (h : (idxB a && idxB b) = false) : cpB many (.tup [a, b]) = false := by
  unfold cpB
  split
  · rename_i i j e
    simp only [D.tup.injEq, List.cons.injEq, and_true] at e
    obtain ⟨rfl, rfl⟩ := e
    simp only [idxB] at h
    cases h1 : decide (0 ≤ i) <;> cases h2 : decide (0 ≤ j) <;> simp_all
  · rfl
theorem two_of {d : D} (hs : sizedB d 2 = true) : ∃ a b, d = .tup [a, b] := by
  unfold sizedB at hs
  split at hs
  · rename_i xs
    have : xs.length = 2 := by have := of_decide_eq_true hs; omega
    match xs, this with
    | [a, b], _ => exact ⟨a, b, rfl⟩
  · cases hs
section
variable {k : Nat} {many : Int} {S : Store}
theorem couple_ok {d : D} (hk : 4 ≤ k) (hS : Pu S) (h : thD d = true) : l.call k 7 [.int many, d] S = .ok (.bl (cpB many d)) S := by
  obtain ⟨k, rfl⟩ : ∃ j, k = j + 1 := ⟨k - 1, by omega⟩
  rw [l.run (d := ⟨2, 2, b7⟩) (σ := [some (.int many), some d]) rfl rfl rfl]
  have sz := sized_ok (k := k) (n := 2) (S := S) (by omega) h
  have tu := tupOf_all (k := k) (f := 1) (q := idxB) (S := S) (by omega) hS h fun x hx => index_ok (by omega) hS hx
  dsimp only
  unfold b7
  cases hs : sizedB d 2 with
  | false => simp [sz, hs, trim_self hS, cp_no hs]
  | true =>
    obtain ⟨a, b, rfl⟩ := two_of hs
    have e : allB idxB (.tup [a, b]) = (idxB a && idxB b) := by simp [allB]
    rw [e] at tu
    cases hi : (idxB a && idxB b) with
    | false => simp [sz, hs, trim_self hS, tu, hi, cp_idx hi]
    | true =>
      obtain ⟨h1, h2⟩ := Bool.and_eq_true_iff.mp hi
      obtain ⟨i, rfl, hi0⟩ := idx_int h1
      obtain ⟨j, rfl, hj0⟩ := idx_int h2
      have c : cpB many (.tup [.int i, .int j]) = (decide (i < j) && decide (j < many)) := by
        show (decide (0 ≤ i) && (decide (0 ≤ j) && _)) = _
        rw [decide_eq_true hi0, decide_eq_true hj0]
        rfl
      rw [c]
      by_cases hl : i < j <;> simp [sz, hs, trim_self hS, tu, hi, hl]
theorem isnet_ok {d : D} (hk : 5 ≤ k) (hS : Pu S) (hm : 1 ≤ many) (hm2 : many ≤ 16) (h : thD d = true) : l.call k 8 [.int many, d] S = .ok (.bl (allB (cpB many) d)) S := by
  obtain ⟨k, rfl⟩ : ∃ j, k = j + 1 := ⟨k - 1, by omega⟩
  rw [l.run (d := ⟨3, 2, b8⟩) (σ := [some (.int many), some d, none]) rfl rfl rfl]
  have pl := trim_pu (n := S.length) (by simp) hS rfl (places_ok (k := k) (S := S) (by omega) hS hm hm2)
  have it := isi_tup h
  dsimp only
  unfold b8
  rw [step1]
  simp [pl]
  rw [step2]
  cases ht : tupB d with
  | false =>
    have e : allB (cpB many) d = false := by cases d <;> first | rfl | (simp [tupB] at ht)
    simp [it, ht, e]
  | true =>
    obtain ⟨xs, rfl⟩ := tup_of ht
    have t : ∀ g : D → Store → Res (Option D), (∀ x ∈ xs, g x S = .ok (some (.bl (cpB many x))) S) → turns g xs S = .ok (xs.map fun x => D.bl (cpB many x)) S := fun g hg => turns_map (g := fun x => .bl (cpB many x)) hg
    simp [it, ht, itemsOf]
    rw [t _ fun x hx => by
      have e := couple_ok (k := k) (many := many) (S := S) (d := x) (by omega) hS ((thD_tup.mp h).2 x hx)
      simp [cturn, e, trim_self hS]]
    have all := blt_allB (cpB many) xs
    simp [all, allB]
theorem isnet_bad {m d : D} (hk : 5 ≤ k) (hS : Pu S) (hd : thD m = true) (h : numB m = false ∨ ∃ i, m = .int i ∧ i < 1) : l.call k 8 [m, d] S = .ex ⟨0, []⟩ S := by
  obtain ⟨k, rfl⟩ : ∃ j, k = j + 1 := ⟨k - 1, by omega⟩
  rw [l.run (d := ⟨3, 2, b8⟩) (σ := [some m, some d, none]) rfl rfl rfl]
  have pl := places_bad (k := k) (S := S) (by omega) hS hd h
  have tx : trim S.length (.ex ⟨0, []⟩ S) = .ex ⟨0, []⟩ S := by rw [trim_ex (by simp) hS, List.take_length]
  dsimp only
  unfold b8
  rw [step1]
  simp [pl, tx]
theorem check_ok {d : D} (hk : 6 ≤ k) (hS : Pu S) (hm : 1 ≤ many) (hm2 : many ≤ 16) (h : thD d = true) (hn : allB (cpB many) d = true) : l.call k 9 [.int many, d] S = .ok .non S := by
  obtain ⟨k, rfl⟩ : ∃ j, k = j + 1 := ⟨k - 1, by omega⟩
  rw [l.run (d := ⟨2, 2, b9⟩) (σ := [some (.int many), some d]) rfl rfl rfl]
  have n := trim_pu (n := S.length) (by simp) hS rfl (isnet_ok (k := k) (S := S) (by omega) hS hm hm2 h)
  dsimp only
  unfold b9
  simp [n, hn]
theorem check_bad {d : D} (hk : 6 ≤ k) (hS : Pu S) : l.call k 9 [.int 0, d] S = .ex ⟨0, []⟩ S := by
  obtain ⟨k, rfl⟩ : ∃ j, k = j + 1 := ⟨k - 1, by omega⟩
  rw [l.run (d := ⟨2, 2, b9⟩) (σ := [some (.int 0), some d]) rfl rfl rfl]
  have n := isnet_bad (k := k) (S := S) (m := .int 0) (d := d) (by omega) hS (by decide) (.inr ⟨0, rfl, by decide⟩)
  have tx : trim S.length (.ex ⟨0, []⟩ S) = .ex ⟨0, []⟩ S := by rw [trim_ex (by simp) hS, List.take_length]
  dsimp only
  unfold b9
  simp [n, tx]
theorem lcouple_ok {d : D} (hk : 3 ≤ k) (hS : Pu S) (h : thD d = true) : l.call k 28 [.int many, d] S = .ok (.bl (cpB many d)) S := by
  obtain ⟨k, rfl⟩ : ∃ j, k = j + 1 := ⟨k - 1, by omega⟩
  rw [l.run (d := ⟨3, 2, b28⟩) (σ := [some (.int many), some d, none]) rfl rfl rfl]
  have it := isi_tup h
  dsimp only
  unfold b28
  rw [step1]
  cases ht : tupB d with
  | false =>
    have e : cpB many d = false := cp_no (by cases d <;> first | rfl | (simp [tupB] at ht))
    simp [it, ht, e]
  | true =>
    obtain ⟨xs, rfl⟩ := tup_of ht
    cases hs : sizedB (.tup xs) 2 with
    | false =>
      have hl : ¬ ((xs.length : Int) = 2) := of_decide_eq_false hs
      simp [it, ht, hl, cp_no hs]
    | true =>
      obtain ⟨a, b, e⟩ := two_of hs
      cases e
      have m := (thD_tup.mp h).2
      have la := trim_pu (n := S.length) (by simp) hS rfl (lindex_ok (k := k) (S := S) (by omega) hS (m a (by simp)))
      have lb := trim_pu (n := S.length) (by simp) hS rfl (lindex_ok (k := k) (S := S) (by omega) hS (m b (by simp)))
      have key : ∀ f : D → Store → Res (Option D), (∀ x ∈ [a, b], f x S = .ok (if (!(idxB x)) = true then some (D.int 1) else none) S) → turns f [a, b] S = .ok (([a, b].filter fun x => !(idxB x)).map fun _ => D.int 1) S := fun f hf => turns_filter (p := fun x => !(idxB x)) (g := fun _ => D.int 1) hf
      have fe := fil_emp idxB [a, b]
      have e2 : [a, b].all idxB = (idxB a && idxB b) := by simp
      simp [it, ht, itemsOf]
      rw [key _ fun x hx => by
        simp only [List.mem_cons, List.not_mem_nil, or_false] at hx
        rcases hx with rfl | rfl
        · cases hb : idxB x <;> simp [cturn, la, hb]
        · cases hb : idxB x <;> simp [cturn, lb, hb]]
      generalize ([a, b].filter fun x => !(idxB x)) = ys at fe
      rw [e2] at fe
      cases hi : (idxB a && idxB b) with
      | false =>
        rw [hi] at fe
        have ne := lst_ne (ys.map fun _ => D.int 1)
        simp [ne, fe, cp_idx hi]
      | true =>
        rw [hi] at fe
        have ne := lst_ne (ys.map fun _ => D.int 1)
        obtain ⟨h1, h2⟩ := Bool.and_eq_true_iff.mp hi
        obtain ⟨i, rfl, hi0⟩ := idx_int h1
        obtain ⟨j, rfl, hj0⟩ := idx_int h2
        have c : cpB many (.tup [.int i, .int j]) = (decide (i < j) && decide (j < many)) := by
          show (decide (0 ≤ i) && (decide (0 ≤ j) && _)) = _
          rw [decide_eq_true hi0, decide_eq_true hj0]
          rfl
        rw [c]
        simp [ne, fe]
        rw [step2]
        by_cases hl : i < j <;> simp [hl]
/-- a good network -/
def Net (many : Int) (cs : List (Int × Int)) : Prop := ∀ c ∈ cs, 0 ≤ c.1 ∧ c.1 < c.2 ∧ c.2 < many
theorem net_B {cs : List (Int × Int)} (h : Net many cs) : allB (cpB many) (dNet cs) = true := by
  show (cs.map dPart).all (cpB many) = true
  rw [List.all_map, List.all_eq_true]
  intro c hc
  obtain ⟨a, b, d⟩ := h c hc
  show (decide (0 ≤ c.1) && (decide (0 ≤ c.2) && (decide (c.1 < c.2) && decide (c.2 < many)))) = true
  rw [decide_eq_true a, decide_eq_true b, decide_eq_true d, decide_eq_true (by omega)]
  rfl
theorem net_th {cs : List (Int × Int)} (h : Net many cs) (hm2 : many ≤ 16) (hl : cs.length ≤ 1000) : thD (dNet cs) = true := by
  refine thD_tup.mpr ⟨by rw [List.length_map]; omega, fun x hx => ?_⟩
  obtain ⟨c, hc, rfl⟩ := List.mem_map.mp hx
  obtain ⟨a, b, d⟩ := h c hc
  refine thD_tup.mpr ⟨by simp, fun y hy => ?_⟩
  simp only [List.mem_cons, List.not_mem_nil, or_false] at hy
  rcases hy with rfl | rfl
  · simp only [thD, Bool.and_eq_true, decide_eq_true_eq]
    omega
  · simp only [thD, Bool.and_eq_true, decide_eq_true_eq]
    omega
end
end Lk53

set_option Elab.async false
set_option maxRecDepth 100000
set_option maxHeartbeats 1000000
namespace Lk53
open Rf
/-! ### rows led through couples -/
def swapL (xs : List Int) (c : Int × Int) : List Int := (xs.set c.1.toNat (fat xs c.2)).set c.2.toNat (fat xs c.1)
theorem swap_len (xs : List Int) (c : Int × Int) : (swapL xs c).length = xs.length := by simp [swapL]
def ledL : List Int → List (Int × Int) → List Int → List Int
  | xs, c :: cs, b :: bs => ledL (if b = 1 then swapL xs c else xs) cs bs
  | xs, _, _ => xs
def ordB : List Int → List (Int × Int) → List Int
  | _, [] => []
  | xs, c :: cs => if fat xs c.2 < fat xs c.1 then 1 :: ordB (swapL xs c) cs else 0 :: ordB xs cs
def ordF : List Int → List (Int × Int) → List Int
  | xs, [] => xs
  | xs, c :: cs => if fat xs c.2 < fat xs c.1 then ordF (swapL xs c) cs else ordF xs cs
theorem led_ord : ∀ (cs : List (Int × Int)) (xs : List Int), ledL xs cs (ordB xs cs) = ordF xs cs
  | [], xs => rfl
  | c :: cs, xs => by
    unfold ordB ordF
    split
    · exact led_ord cs _
    · exact led_ord cs _
theorem ordB_len : ∀ (cs : List (Int × Int)) (xs : List Int), (ordB xs cs).length = cs.length
  | [], _ => rfl
  | c :: cs, xs => by
    unfold ordB
    split <;> simp [ordB_len cs]
theorem ordB_bit : ∀ (cs : List (Int × Int)) (xs : List Int), ∀ b ∈ ordB xs cs, 0 ≤ b ∧ b ≤ 1
  | [], _, b, h => by cases h
  | c :: cs, xs, b, h => by
    unfold ordB at h
    split at h
    · rcases List.mem_cons.mp h with rfl | h
      · decide
      · exact ordB_bit cs _ b h
    · rcases List.mem_cons.mp h with rfl | h
      · decide
      · exact ordB_bit cs _ b h
theorem ledL_len : ∀ (cs : List (Int × Int)) (bs xs : List Int), (ledL xs cs bs).length = xs.length
  | [], bs, xs => by cases bs <;> rfl
  | c :: cs, [], xs => rfl
  | c :: cs, b :: bs, xs => by
    unfold ledL
    rw [ledL_len cs bs]
    split
    · exact swap_len xs c
    · rfl
theorem ordF_len (cs : List (Int × Int)) (xs : List Int) : (ordF xs cs).length = xs.length := by rw [← led_ord, ledL_len]
abbrev In (n : Nat) (c : Int × Int) : Prop := 0 ≤ c.1 ∧ c.1 < c.2 ∧ c.2 < (n : Int)
theorem zip_two {α β : Type} (e : α → D) (f : β → D) : ∀ (xs : List α) (ys : List β), zipD (xs.map e) (ys.map f) = (xs.zip ys).map fun q => .tup [e q.1, f q.2]
  | [], ys => by cases ys <;> rfl
  | x :: xs, [] => rfl
  | x :: xs, y :: ys => by
    show D.tup [e x, f y] :: zipD (xs.map e) (ys.map f) = _
    rw [zip_two e f xs ys]
    rfl
theorem put_int {S : Store} {xs : List Int} {i v : Int} (h : 0 ≤ i) (h2 : i < xs.length) : putIx (.ref S.length) (.c (.int i)) (.c (.int v)) (S ++ [.lst (xs.map D.int)]) = some (S ++ [.lst ((xs.set i.toNat v).map D.int)]) := by
  rw [put_endL h (by rw [List.length_map]; exact h2), List.map_set]
section
variable {k : Nat} {S : Store}
theorem exch_ok {xs : List Int} {c : Int × Int} (hk : 1 ≤ k) (hS : Pu S) (hc : In xs.length c) : trim S.length (l.call k 10 [dInts xs, dPart c] S) = .ok (dInts (swapL xs c)) S := by
  obtain ⟨k, rfl⟩ : ∃ j, k = j + 1 := ⟨k - 1, by omega⟩
  rw [l.run (d := ⟨5, 2, b10⟩) (σ := [some (.tup (xs.map D.int)), some (dPart c), none, none, none]) rfl rfl rfl]
  obtain ⟨c1, c2⟩ := c
  obtain ⟨h0, h1, h2⟩ := hc
  dsimp only at h0 h1 h2
  have a1 := atD_ints (fil := xs) (w := c1) h0 (by omega)
  have a2 := atD_ints (fil := xs) (w := c2) (by omega) h2
  have p1 := put_int (S := S) (xs := xs) (i := c1) (v := fat xs c2) h0 (by omega)
  have p2 := put_int (S := S) (xs := xs.set c1.toNat (fat xs c2)) (i := c2) (v := fat xs c1) (by omega) (by rw [List.length_set]; exact h2)
  dsimp only
  unfold b10
  rw [step1]
  simp [dPart]
  rw [step2]
  simp
  rw [step2]
  simp [-List.map_set, a1, a2, p1, p2]
  rw [step2]
  simp [-List.map_set, see_end]
  exact trim_back hS (by simp [-List.map_set, puO, ints_pu]) (by simp [-List.map_set, ints_pu])
theorem led_loop {t b : Option D} (hk : 1 ≤ k) (hS : Pu S) : ∀ (cs : List (Int × Int)) (bs xs : List Int) (x3 x4 : Option D), cs.length = bs.length → (∀ c ∈ cs, In xs.length c) →
    ∃ x3' x4', forL (.tp (.cons (.nm 4) (.cons (.nm 3) .nil))) (execs l.G (l.call k) l.sub b11l0) ((cs.zip bs).map fun q => .tup [dPart q.1, .int q.2]) [some (dInts xs), t, b, x3, x4] S = .nx [some (dInts (ledL xs cs bs)), t, b, x3', x4'] S
  | [], bs, xs, x3, x4, _, _ => ⟨x3, x4, by cases bs <;> rfl⟩
  | c :: cs, [], xs, x3, x4, h, _ => by cases h
  | c :: cs, v :: bs, xs, x3, x4, h, hc => by
    have ex := exch_ok (k := k) (S := S) (xs := xs) (c := c) hk hS (hc c (List.mem_cons_self ..))
    obtain ⟨x3', x4', e⟩ := led_loop (t := t) (b := b) hk hS cs bs (if v = 1 then swapL xs c else xs) (some (.int v)) (some (dPart c)) (by simpa using h) (fun q hq => by
      have := hc q (List.mem_cons_of_mem _ hq)
      split
      · rw [In, swap_len]; exact this
      · exact this)
    refine ⟨x3', x4', ?_⟩
    have st : execs l.G (l.call k) l.sub b11l0 [some (dInts xs), t, b, some (.int v), some (dPart c)] S = .nx [some (dInts (if v = 1 then swapL xs c else xs)), t, b, some (.int v), some (dPart c)] S := by
      unfold b11l0
      by_cases hv : v = 1 <;> simp [hv, ex]
    rw [List.zip_cons_cons, List.map_cons, forL_cons]
    rw [show asg (.tp (.cons (.nm 4) (.cons (.nm 3) .nil))) (.tup [dPart c, .int v]) [some (dInts xs), t, b, x3, x4] = some [some (dInts xs), t, b, some (.int v), some (dPart c)] from rfl]
    dsimp only
    rw [st, turn_nx, e]
    rfl
theorem bits_all {bs : List Int} (hb : ∀ b ∈ bs, 0 ≤ b ∧ b ≤ 1) {f : D → Store → Res (Option D)} (h : ∀ b ∈ bs, f (.int b) S = .ok (some (.bl true)) S) : turns f (bs.map D.int) S = .ok (bs.map fun _ => .bl true) S := turns_mapF _ _ h
theorem led_ok {cs : List (Int × Int)} {bs xs : List Int} (hk : 7 ≤ k) (hS : Pu S) (h1 : 1 ≤ xs.length) (h16 : xs.length ≤ 16) (hn : Net xs.length cs) (hl : cs.length ≤ 1000) (he : cs.length = bs.length) (hb : ∀ b ∈ bs, 0 ≤ b ∧ b ≤ 1) : l.call k 11 [dInts xs, dNet cs, dInts bs] S = .ok (dInts (ledL xs cs bs)) S := by
  obtain ⟨k, rfl⟩ : ∃ j, k = j + 1 := ⟨k - 1, by omega⟩
  rw [l.run (d := ⟨5, 3, b11⟩) (σ := [some (dInts xs), some (dNet cs), some (dInts bs), none, none]) rfl rfl rfl]
  have th := net_th hn (by omega) hl
  have ck := trim_pu (n := S.length) (by simp) hS rfl (check_ok (k := k) (S := S) (many := xs.length) (by omega) hS (by omega) (by omega) th (net_B hn))
  have thb : thD (dInts bs) = true := thD_tup.mpr ⟨by rw [List.length_map]; omega, fun x hx => by
    obtain ⟨b, hb', rfl⟩ := List.mem_map.mp hx
    have := hb b hb'
    simp only [thD, Bool.and_eq_true, decide_eq_true_eq]
    omega⟩
  have sz := trim_pu (n := S.length) (by simp) hS rfl (sized_ok (k := k) (n := cs.length) (S := S) (by omega) thb)
  have szb : sizedB (dInts bs) cs.length = true := decide_eq_true (by rw [List.length_map]; omega)
  obtain ⟨x3, x4, e⟩ := led_loop (k := k) (S := S) (t := some (dNet cs)) (b := some (dInts bs)) (by omega) hS cs bs xs none none he hn
  have zp : zipI [dNet cs, dInts bs] = some ((cs.zip bs).map fun q => .tup [dPart q.1, .int q.2]) := by
    show some (zipD _ _) = _
    rw [zip_two]
  have al := blt_allB (fun _ : Int => true) bs
  have q1 : exec l.G (l.call k) l.sub (match b11 with | .cons _ (.cons _ (.cons a _)) => a | _ => .pass) [some (dInts xs), some (dNet cs), some (dInts bs), none, none] S = .nx [some (dInts xs), some (dNet cs), some (dInts bs), none, none] S := by
    unfold b11
    dsimp only
    have i1 : itemsOf (dInts bs) = some (bs.map D.int) := rfl
    simp [sz, szb, i1]
    rw [bits_all hb fun b hb' => by
      have q := hb b hb'
      have nb := trim_pu (n := S.length) (by simp) hS rfl (number_ok (k := k) (d := .int b) (S := S) (by omega) ((thD_tup.mp thb).2 _ (List.mem_map_of_mem hb')))
      simp [cturn, nb, numB, q.1, q.2]]
    have ba : (bs.all fun _ : Int => true) = true := by rw [List.all_eq_true]; intros; rfl
    simp [al, ba]
  have q0 : exec l.G (l.call k) l.sub (match b11 with | .cons a _ => a | _ => .pass) [some (dInts xs), some (dNet cs), some (dInts bs), none, none] S = .nx [some (dInts xs), some (dNet cs), some (dInts bs), none, none] S := by
    unfold b11
    dsimp only
    simp [isiD, typeOfD, dInts]
  have q2 : exec l.G (l.call k) l.sub (match b11 with | .cons _ (.cons a _) => a | _ => .pass) [some (dInts xs), some (dNet cs), some (dInts bs), none, none] S = .nx [some (dInts xs), some (dNet cs), some (dInts bs), none, none] S := by
    unfold b11
    dsimp only
    have ln : bltD .len [dInts xs] = some (.c (.int xs.length)) := by show some (D.int ((xs.map D.int).length : Int)) = _; rw [List.length_map]
    simp [ln, ck]
  show (execs l.G (l.call k) l.sub b11 _ _).res = _
  rw [show b11 = .cons (match b11 with | .cons a _ => a | _ => .pass) (.cons (match b11 with | .cons _ (.cons a _) => a | _ => .pass) (.cons (match b11 with | .cons _ (.cons _ (.cons a _)) => a | _ => .pass) (.cons (match b11 with | .cons _ (.cons _ (.cons _ (.cons a _))) => a | _ => .pass) (.cons (match b11 with | .cons _ (.cons _ (.cons _ (.cons _ (.cons a _)))) => a | _ => .pass) .nil)))) from rfl, exs_nx q0, rest_nx q2, rest_nx q1]
  have q3 : exec l.G (l.call k) l.sub (match b11 with | .cons _ (.cons _ (.cons _ (.cons a _))) => a | _ => .pass) [some (dInts xs), some (dNet cs), some (dInts bs), none, none] S = .nx [some (dInts (ledL xs cs bs)), some (dNet cs), some (dInts bs), x3, x4] S := by
    unfold b11
    dsimp only
    simp [zp, e]
  rw [rest_nx q3]
  unfold b11
  dsimp only
  rw [step2]
  simp
end
end Lk53

set_option Elab.async false
set_option maxRecDepth 100000
set_option maxHeartbeats 1000000
namespace Lk53
open Rf
section
variable {k : Nat} {S : Store}
theorem fat_at {xs : List Int} {c : Int × Int} (hc : In xs.length c) : atD (xs.map D.int) c.1 = some (.c (.int (fat xs c.1))) ∧ atD (xs.map D.int) c.2 = some (.c (.int (fat xs c.2))) := ⟨atD_ints hc.1 (by have := hc.2.1; have := hc.2.2; omega), atD_ints (by have := hc.1; have := hc.2.1; omega) hc.2.2⟩
/-! ### bits_for -/
theorem bits_loop {t : Option D} (hk : 1 ≤ k) (hS : Pu S) : ∀ (cs : List (Int × Int)) (xs bs : List Int) (x3 : Option D), (∀ c ∈ cs, In xs.length c) → bs.length + cs.length ≤ 2000 →
    ∃ y0 x3', forL (.nm 3) (execs l.G (l.call k) l.sub b12l0) (cs.map dPart) [some (dInts xs), t, some (.ref S.length), x3] (S ++ [.lst (bs.map D.int)]) = .nx [y0, t, some (.ref S.length), x3'] (S ++ [.lst ((bs ++ ordB xs cs).map D.int)])
  | [], xs, bs, x3, _, _ => ⟨some (dInts xs), x3, by simp [ordB]⟩
  | c :: cs, xs, bs, x3, hc, hl => by
    rw [List.length_cons] at hl
    have hi := hc c (List.mem_cons_self ..)
    obtain ⟨a1, a2⟩ := fat_at hi
    have ok := app_ok (S := S) (xs := bs.map D.int)
    have lt : ∀ v : D, (bs.map D.int).length < 2 ^ 60 → idxD (.ref S.length) (.c (.int (-1))) (S ++ [.lst (bs.map D.int ++ [v])]) = some v := fun v h => last_end h
    rw [List.map_cons, forL_cons]
    rw [show asg (.nm 3) (dPart c) [some (dInts xs), t, some (.ref S.length), x3] = some [some (dInts xs), t, some (.ref S.length), some (dPart c)] from rfl]
    dsimp only
    have i0 : ∀ S, idxD (dPart c) (.c (.int 0)) S = some (.c (.int c.1)) := fun S => rfl
    have i1 : ∀ S, idxD (dPart c) (.c (.int 1)) S = some (.c (.int c.2)) := fun S => rfl
    by_cases hg : fat xs c.2 < fat xs c.1
    · have ex := exch_ok (k := k) (S := S ++ [.lst ((bs ++ [1]).map D.int)]) (xs := xs) (c := c) hk (pu_end hS (ints_pu _)) hi
      simp only [List.length_append, List.length_cons, List.length_nil, Nat.zero_add] at ex
      have ap := app_end (S := S) (xs := bs.map D.int) (v := .c (.int 1)) (by rw [List.length_map]; unfold LINE; omega)
      have l1 := lt (.c (.int 1)) (by rw [List.length_map]; omega)
      obtain ⟨y0, x3', e⟩ := bits_loop (t := t) hk hS cs (swapL xs c) (bs ++ [1]) (some (dPart c)) (fun q hq => by rw [In, swap_len]; exact hc q (List.mem_cons_of_mem _ hq)) (by simp; omega)
      refine ⟨y0, x3', ?_⟩
      have s0 : exec l.G (l.call k) l.sub (match b12l0 with | .cons a _ => a | _ => .pass) [some (dInts xs), t, some (.ref S.length), some (dPart c)] (S ++ [.lst (bs.map D.int)]) = .nx [some (dInts xs), t, some (.ref S.length), some (dPart c)] (S ++ [.lst ((bs ++ [1]).map D.int)]) := by
        unfold b12l0
        dsimp only
        have bi : bltD .int [.bl true] = some (.c (.int 1)) := rfl
        simp [ok, i0, i1, a1, a2, hg, bi, ap]
      have s1 : exec l.G (l.call k) l.sub (match b12l0 with | .cons _ (.cons a _) => a | _ => .pass) [some (dInts xs), t, some (.ref S.length), some (dPart c)] (S ++ [.lst ((bs ++ [1]).map D.int)]) = .nx [some (dInts (swapL xs c)), t, some (.ref S.length), some (dPart c)] (S ++ [.lst ((bs ++ [1]).map D.int)]) := by
        unfold b12l0
        dsimp only
        rw [List.map_append] at ex ⊢
        rw [show [(1 : Int)].map D.int = [D.c (.int 1)] from rfl] at ex ⊢
        simp [l1, ex]
      have st : execs l.G (l.call k) l.sub b12l0 [some (dInts xs), t, some (.ref S.length), some (dPart c)] (S ++ [.lst (bs.map D.int)]) = .nx [some (dInts (swapL xs c)), t, some (.ref S.length), some (dPart c)] (S ++ [.lst ((bs ++ [1]).map D.int)]) := by
        rw [show b12l0 = .cons (match b12l0 with | .cons a _ => a | _ => .pass) (.cons (match b12l0 with | .cons _ (.cons a _) => a | _ => .pass) .nil) from rfl, exs_nx s0, rest_nx s1, rest_nil]
      rw [st, turn_nx]
      have eo : ordB xs (c :: cs) = 1 :: ordB (swapL xs c) cs := if_pos hg
      rw [eo]
      simpa using e
    · have ap := app_end (S := S) (xs := bs.map D.int) (v := .c (.int 0)) (by rw [List.length_map]; unfold LINE; omega)
      have l1 := lt (.c (.int 0)) (by rw [List.length_map]; omega)
      obtain ⟨y0, x3', e⟩ := bits_loop (t := t) hk hS cs xs (bs ++ [0]) (some (dPart c)) (fun q hq => hc q (List.mem_cons_of_mem _ hq)) (by simp; omega)
      refine ⟨y0, x3', ?_⟩
      have s0 : exec l.G (l.call k) l.sub (match b12l0 with | .cons a _ => a | _ => .pass) [some (dInts xs), t, some (.ref S.length), some (dPart c)] (S ++ [.lst (bs.map D.int)]) = .nx [some (dInts xs), t, some (.ref S.length), some (dPart c)] (S ++ [.lst ((bs ++ [0]).map D.int)]) := by
        unfold b12l0
        dsimp only
        have bi : bltD .int [.bl false] = some (.c (.int 0)) := rfl
        simp [ok, i0, i1, a1, a2, hg, bi, ap]
      have s1 : exec l.G (l.call k) l.sub (match b12l0 with | .cons _ (.cons a _) => a | _ => .pass) [some (dInts xs), t, some (.ref S.length), some (dPart c)] (S ++ [.lst ((bs ++ [0]).map D.int)]) = .nx [some (dInts xs), t, some (.ref S.length), some (dPart c)] (S ++ [.lst ((bs ++ [0]).map D.int)]) := by
        unfold b12l0
        dsimp only
        rw [List.map_append]
        rw [show [(0 : Int)].map D.int = [D.c (.int 0)] from rfl]
        simp [l1]
      have st : execs l.G (l.call k) l.sub b12l0 [some (dInts xs), t, some (.ref S.length), some (dPart c)] (S ++ [.lst (bs.map D.int)]) = .nx [some (dInts xs), t, some (.ref S.length), some (dPart c)] (S ++ [.lst ((bs ++ [0]).map D.int)]) := by
        rw [show b12l0 = .cons (match b12l0 with | .cons a _ => a | _ => .pass) (.cons (match b12l0 with | .cons _ (.cons a _) => a | _ => .pass) .nil) from rfl, exs_nx s0, rest_nx s1, rest_nil]
      rw [st, turn_nx]
      have eo : ordB xs (c :: cs) = 0 :: ordB xs cs := if_neg hg
      rw [eo]
      simpa using e
theorem ints_th {xs : List Int} (hl : xs.length ≤ 1000) (h : ∀ x ∈ xs, -1000 ≤ x ∧ x ≤ 1000) : thD (dInts xs) = true := thD_tup.mpr ⟨by rw [List.length_map]; omega, fun x hx => by
    obtain ⟨b, hb', rfl⟩ := List.mem_map.mp hx
    have := h b hb'
    simp only [thD, Bool.and_eq_true, decide_eq_true_eq]
    omega⟩
theorem nums_ok {xs : List Int} (hk : 2 ≤ k) (hS : Pu S) (hl : xs.length ≤ 1000) (h : ∀ x ∈ xs, -1000 ≤ x ∧ x ≤ 1000) : l.call k 3 [dInts xs, .fn 0] S = .ok (.bl true) S := by
  have th := ints_th hl h
  have tu := tupOf_all (k := k) (f := 0) (q := numB) (S := S) (by omega) hS th fun x hx => number_ok (by omega) hx
  rw [tu]
  have : allB numB (dInts xs) = true := by
    show (xs.map D.int).all numB = true
    rw [List.all_map, List.all_eq_true]
    intros
    rfl
  rw [this]
theorem bfor_ok {cs : List (Int × Int)} {xs : List Int} (hk : 7 ≤ k) (hS : Pu S) (h1 : 1 ≤ xs.length) (h16 : xs.length ≤ 16) (hx : ∀ x ∈ xs, -1000 ≤ x ∧ x ≤ 1000) (hn : Net xs.length cs) (hl : cs.length ≤ 1000) : trim S.length (l.call k 12 [dInts xs, dNet cs] S) = .ok (dInts (ordB xs cs)) S := by
  obtain ⟨k, rfl⟩ : ∃ j, k = j + 1 := ⟨k - 1, by omega⟩
  rw [l.run (d := ⟨4, 2, b12⟩) (σ := [some (dInts xs), some (dNet cs), none, none]) rfl rfl rfl]
  have th := net_th hn (by omega) hl
  have ck := trim_pu (n := S.length) (by simp) hS rfl (check_ok (k := k) (S := S) (many := xs.length) (by omega) hS (by omega) (by omega) th (net_B hn))
  have nu := trim_pu (n := S.length) (by simp) hS rfl (nums_ok (k := k) (S := S) (xs := xs) (by omega) hS (by omega) hx)
  obtain ⟨y0, x3, e⟩ := bits_loop (k := k) (S := S) (t := some (dNet cs)) (by omega) hS cs xs [] none hn (by simp; omega)
  have ln : bltD .len [dInts xs] = some (.c (.int xs.length)) := by show some (D.int ((xs.map D.int).length : Int)) = _; rw [List.length_map]
  rw [show ([] : List Int).map D.int = [] from rfl, List.nil_append] at e
  show trim S.length (execs l.G (l.call k) l.sub b12 _ _).res = _
  have q0 : exec l.G (l.call k) l.sub (match b12 with | .cons a _ => a | _ => .pass) [some (dInts xs), some (dNet cs), none, none] S = .nx [some (dInts xs), some (dNet cs), none, none] S := by
    unfold b12
    dsimp only
    simp [nu]
  have q1 : exec l.G (l.call k) l.sub (match b12 with | .cons _ (.cons a _) => a | _ => .pass) [some (dInts xs), some (dNet cs), none, none] S = .nx [some (dInts xs), some (dNet cs), none, none] S := by
    unfold b12
    dsimp only
    simp [ln, ck]
  have q2 : exec l.G (l.call k) l.sub (match b12 with | .cons _ (.cons _ (.cons a _)) => a | _ => .pass) [some (dInts xs), some (dNet cs), none, none] S = .nx [some (dInts xs), some (dNet cs), some (.ref S.length), none] (S ++ [.lst []]) := by
    unfold b12
    dsimp only
    simp
  have q3 : exec l.G (l.call k) l.sub (match b12 with | .cons _ (.cons _ (.cons _ (.cons a _))) => a | _ => .pass) [some (dInts xs), some (dNet cs), some (.ref S.length), none] (S ++ [.lst []]) = .nx [y0, some (dNet cs), some (.ref S.length), x3] (S ++ [.lst ((ordB xs cs).map D.int)]) := by
    unfold b12
    dsimp only
    simp [itemsOf, e]
  have q4 : exec l.G (l.call k) l.sub (match b12 with | .cons _ (.cons _ (.cons _ (.cons _ (.cons a _)))) => a | _ => .pass) [y0, some (dNet cs), some (.ref S.length), x3] (S ++ [.lst ((ordB xs cs).map D.int)]) = .ret (dInts (ordB xs cs)) (S ++ [.lst ((ordB xs cs).map D.int)]) := by
    unfold b12
    dsimp only
    simp [see_end]
    rfl
  rw [show b12 = .cons (match b12 with | .cons a _ => a | _ => .pass) (.cons (match b12 with | .cons _ (.cons a _) => a | _ => .pass) (.cons (match b12 with | .cons _ (.cons _ (.cons a _)) => a | _ => .pass) (.cons (match b12 with | .cons _ (.cons _ (.cons _ (.cons a _))) => a | _ => .pass) (.cons (match b12 with | .cons _ (.cons _ (.cons _ (.cons _ (.cons a _)))) => a | _ => .pass) .nil)))) from rfl, exs_nx q0, rest_nx q1, rest_nx q2, rest_nx q3, rest_ret q4]
  exact trim_back hS (by simp [puO, ints_pu]) (by simp [ints_pu])
end
end Lk53

set_option Elab.async false
set_option maxRecDepth 100000
set_option maxHeartbeats 1000000
namespace Lk53
open Rf
section
variable {k : Nat} {S : Store}
/-! ### the law's own rows -/
theorem lexch_loop {r t b : Option D} : ∀ (cs : List (Int × Int)) (bs xs : List Int) (x4 x5 x6 : Option D), cs.length = bs.length → (∀ c ∈ cs, In xs.length c) →
    ∃ x4' x5' x6', forL (.tp (.cons (.tp (.cons (.nm 5) (.cons (.nm 6) .nil))) (.cons (.nm 4) .nil))) (execs l.G (l.call k) l.sub b25l0) ((cs.zip bs).map fun q => .tup [dPart q.1, .int q.2]) [r, t, b, some (.ref S.length), x4, x5, x6] (S ++ [.lst (xs.map D.int)]) = .nx [r, t, b, some (.ref S.length), x4', x5', x6'] (S ++ [.lst ((ledL xs cs bs).map D.int)])
  | [], bs, xs, x4, x5, x6, _, _ => ⟨x4, x5, x6, by cases bs <;> rfl⟩
  | c :: cs, [], xs, x4, x5, x6, h, _ => by cases h
  | c :: cs, v :: bs, xs, x4, x5, x6, h, hc => by
    have hi := hc c (List.mem_cons_self ..)
    obtain ⟨a1, a2⟩ := fat_at hi
    have p1 := put_int (S := S) (xs := xs) (i := c.1) (v := fat xs c.2) hi.1 (by have := hi.2.1; have := hi.2.2; omega)
    have p2 := put_int (S := S) (xs := xs.set c.1.toNat (fat xs c.2)) (i := c.2) (v := fat xs c.1) (by have := hi.1; have := hi.2.1; omega) (by rw [List.length_set]; exact hi.2.2)
    have g : ∀ i : Int, idxD (.ref S.length) (.c (.int i)) (S ++ [.lst (xs.map D.int)]) = atD (xs.map D.int) i := fun i => idx_end
    obtain ⟨x4', x5', x6', e⟩ := lexch_loop (r := r) (t := t) (b := b) cs bs (if v = 1 then swapL xs c else xs) (some (.int v)) (some (.int c.1)) (some (.int c.2)) (by simpa using h) (fun q hq => by
      have := hc q (List.mem_cons_of_mem _ hq)
      split
      · rw [In, swap_len]; exact this
      · exact this)
    refine ⟨x4', x5', x6', ?_⟩
    have st : execs l.G (l.call k) l.sub b25l0 [r, t, b, some (.ref S.length), some (.int v), some (.int c.1), some (.int c.2)] (S ++ [.lst (xs.map D.int)]) = .nx [r, t, b, some (.ref S.length), some (.int v), some (.int c.1), some (.int c.2)] (S ++ [.lst ((if v = 1 then swapL xs c else xs).map D.int)]) := by
      unfold b25l0
      by_cases hv : v = 1
      · simp [-List.map_set, hv, g, a1, a2, p1, p2, swapL]
      · simp [hv]
    rw [List.zip_cons_cons, List.map_cons, forL_cons]
    rw [show asg (.tp (.cons (.tp (.cons (.nm 5) (.cons (.nm 6) .nil))) (.cons (.nm 4) .nil))) (.tup [dPart c, .int v]) [r, t, b, some (.ref S.length), x4, x5, x6] = some [r, t, b, some (.ref S.length), some (.int v), some (.int c.1), some (.int c.2)] from rfl]
    dsimp only
    rw [st, turn_nx, e]
    rfl
theorem lexch_ok {cs : List (Int × Int)} {bs xs : List Int} (hk : 1 ≤ k) (hS : Pu S) (hn : Net xs.length cs) (he : cs.length = bs.length) : trim S.length (l.call k 25 [dInts xs, dNet cs, dInts bs] S) = .ok (dInts (ledL xs cs bs)) S := by
  obtain ⟨k, rfl⟩ : ∃ j, k = j + 1 := ⟨k - 1, by omega⟩
  rw [l.run (d := ⟨7, 3, b25⟩) (σ := [some (.tup (xs.map D.int)), some (dNet cs), some (dInts bs), none, none, none, none]) rfl rfl rfl]
  obtain ⟨x4, x5, x6, e⟩ := lexch_loop (k := k) (S := S) (r := some (.tup (xs.map D.int))) (t := some (dNet cs)) (b := some (dInts bs)) cs bs xs none none none he hn
  have zp : zipI [dNet cs, dInts bs] = some ((cs.zip bs).map fun q => .tup [dPart q.1, .int q.2]) := by
    show some (zipD _ _) = _
    rw [zip_two]
  show trim S.length (execs l.G (l.call k) l.sub b25 _ _).res = _
  have q0 : exec l.G (l.call k) l.sub (match b25 with | .cons a _ => a | _ => .pass) [some (.tup (xs.map D.int)), some (dNet cs), some (dInts bs), none, none, none, none] S = .nx [some (.tup (xs.map D.int)), some (dNet cs), some (dInts bs), some (.ref S.length), none, none, none] (S ++ [.lst (xs.map D.int)]) := by
    unfold b25
    dsimp only
    simp
  have q1 : exec l.G (l.call k) l.sub (match b25 with | .cons _ (.cons a _) => a | _ => .pass) [some (.tup (xs.map D.int)), some (dNet cs), some (dInts bs), some (.ref S.length), none, none, none] (S ++ [.lst (xs.map D.int)]) = .nx [some (.tup (xs.map D.int)), some (dNet cs), some (dInts bs), some (.ref S.length), x4, x5, x6] (S ++ [.lst ((ledL xs cs bs).map D.int)]) := by
    unfold b25
    dsimp only
    simp [zp, e]
  have q2 : exec l.G (l.call k) l.sub (match b25 with | .cons _ (.cons _ (.cons a _)) => a | _ => .pass) [some (.tup (xs.map D.int)), some (dNet cs), some (dInts bs), some (.ref S.length), x4, x5, x6] (S ++ [.lst ((ledL xs cs bs).map D.int)]) = .ret (dInts (ledL xs cs bs)) (S ++ [.lst ((ledL xs cs bs).map D.int)]) := by
    unfold b25
    dsimp only
    simp [see_end]
    rfl
  rw [show b25 = .cons (match b25 with | .cons a _ => a | _ => .pass) (.cons (match b25 with | .cons _ (.cons a _) => a | _ => .pass) (.cons (match b25 with | .cons _ (.cons _ (.cons a _)) => a | _ => .pass) .nil)) from rfl, exs_nx q0, rest_nx q1, rest_ret q2]
  exact trim_back hS (by simp [puO, ints_pu]) (by simp [ints_pu])
theorem app_mid {o : Ob} {A B : List D} {v : D} (h : A.length < LINE) : mthD .append (.ref 1) [v] [o, .lst A, .lst B] = .ok .non [o, .lst (A ++ [v]), .lst B] := if_pos h
theorem ok_mid {o : Ob} {A B : List D} : mthOk .append (.ref 1) [o, .lst A, .lst B] = true := rfl
theorem idx_mid {o : Ob} {A B : List D} {v : D} : idxD (.ref 1) (.c (.int (-1))) [o, .lst (A ++ [v]), .lst B] = some v := by
  show atD (A ++ [v]) (-1) = some v
  unfold atD ixD
  rw [if_neg (by decide), if_pos (by simp; omega), Option.bind_some, List.length_append]
  have : (-1 + (((A.length + [v].length : Nat)) : Int)).toNat = A.length := by
    simp only [List.length_cons, List.length_nil]
    omega
  rw [this, List.getElem?_append_right (Nat.le_refl _)]
  simp
theorem idx_two {o : Ob} {A B : List D} {i : Int} : idxD (.ref 2) (.c (.int i)) [o, .lst A, .lst B] = atD B i := rfl
theorem put_two {o : Ob} {A : List D} {xs : List Int} {i v : Int} (h : 0 ≤ i) (h2 : i < xs.length) : putIx (.ref 2) (.c (.int i)) (.c (.int v)) [o, .lst A, .lst (xs.map D.int)] = some [o, .lst A, .lst ((xs.set i.toNat v).map D.int)] := by
  have := put_int (S := [o, .lst A]) (xs := xs) (i := i) (v := v) h h2
  exact this
abbrev ordE (r t : Option D) (x4 x5 : Option D) : Env := [r, t, some (.ref 1), some (.ref 2), x4, x5]
theorem lord_loop {r t : Option D} {o : Ob} : ∀ (cs : List (Int × Int)) (xs bs : List Int) (x4 x5 : Option D), (∀ c ∈ cs, In xs.length c) → bs.length + cs.length ≤ 2000 →
    ∃ x4' x5', forL (.tp (.cons (.nm 4) (.cons (.nm 5) .nil))) (execs l.G (l.call k) l.sub b26l0) (cs.map dPart) (ordE r t x4 x5) [o, .lst (bs.map D.int), .lst (xs.map D.int)] = .nx (ordE r t x4' x5') [o, .lst ((bs ++ ordB xs cs).map D.int), .lst ((ordF xs cs).map D.int)]
  | [], xs, bs, x4, x5, _, _ => ⟨x4, x5, by simp [ordB, ordF]⟩
  | c :: cs, xs, bs, x4, x5, hc, hl => by
    rw [List.length_cons] at hl
    have hi := hc c (List.mem_cons_self ..)
    obtain ⟨a1, a2⟩ := fat_at hi
    rw [List.map_cons, forL_cons]
    rw [show asg (.tp (.cons (.nm 4) (.cons (.nm 5) .nil))) (dPart c) (ordE r t x4 x5) = some (ordE r t (some (.int c.1)) (some (.int c.2))) from rfl]
    dsimp only
    by_cases hg : fat xs c.2 < fat xs c.1
    · have ap := app_mid (o := o) (A := bs.map D.int) (B := xs.map D.int) (v := .c (.int 1)) (by rw [List.length_map]; unfold LINE; omega)
      have p1 := put_two (o := o) (A := bs.map D.int ++ [.c (.int 1)]) (xs := xs) (i := c.1) (v := fat xs c.2) hi.1 (by have := hi.2.1; have := hi.2.2; omega)
      have p2 := put_two (o := o) (A := bs.map D.int ++ [.c (.int 1)]) (xs := xs.set c.1.toNat (fat xs c.2)) (i := c.2) (v := fat xs c.1) (by have := hi.1; have := hi.2.1; omega) (by rw [List.length_set]; exact hi.2.2)
      obtain ⟨x4', x5', e⟩ := lord_loop (r := r) (t := t) (o := o) cs (swapL xs c) (bs ++ [1]) (some (.int c.1)) (some (.int c.2)) (fun q hq => by rw [In, swap_len]; exact hc q (List.mem_cons_of_mem _ hq)) (by simp; omega)
      refine ⟨x4', x5', ?_⟩
      have s0 : exec l.G (l.call k) l.sub (match b26l0 with | .cons a _ => a | _ => .pass) (ordE r t (some (.int c.1)) (some (.int c.2))) [o, .lst (bs.map D.int), .lst (xs.map D.int)] = .nx (ordE r t (some (.int c.1)) (some (.int c.2))) [o, .lst (bs.map D.int ++ [.c (.int 1)]), .lst (xs.map D.int)] := by
        unfold b26l0
        dsimp only
        simp [ok_mid, idx_two, a1, a2, hg, ap]
      have s1 : exec l.G (l.call k) l.sub (match b26l0 with | .cons _ (.cons a _) => a | _ => .pass) (ordE r t (some (.int c.1)) (some (.int c.2))) [o, .lst (bs.map D.int ++ [.c (.int 1)]), .lst (xs.map D.int)] = .nx (ordE r t (some (.int c.1)) (some (.int c.2))) [o, .lst (bs.map D.int ++ [.c (.int 1)]), .lst ((swapL xs c).map D.int)] := by
        unfold b26l0
        dsimp only
        simp [-List.map_set, idx_mid, idx_two, a1, a2, p1, p2, swapL]
      have st : execs l.G (l.call k) l.sub b26l0 (ordE r t (some (.int c.1)) (some (.int c.2))) [o, .lst (bs.map D.int), .lst (xs.map D.int)] = .nx (ordE r t (some (.int c.1)) (some (.int c.2))) [o, .lst (bs.map D.int ++ [.c (.int 1)]), .lst ((swapL xs c).map D.int)] := by
        rw [show b26l0 = .cons (match b26l0 with | .cons a _ => a | _ => .pass) (.cons (match b26l0 with | .cons _ (.cons a _) => a | _ => .pass) .nil) from rfl, exs_nx s0, rest_nx s1, rest_nil]
      rw [st, turn_nx]
      have eo : ordB xs (c :: cs) = 1 :: ordB (swapL xs c) cs := if_pos hg
      have ef : ordF xs (c :: cs) = ordF (swapL xs c) cs := if_pos hg
      rw [eo, ef]
      simpa using e
    · have ap := app_mid (o := o) (A := bs.map D.int) (B := xs.map D.int) (v := .c (.int 0)) (by rw [List.length_map]; unfold LINE; omega)
      obtain ⟨x4', x5', e⟩ := lord_loop (r := r) (t := t) (o := o) cs xs (bs ++ [0]) (some (.int c.1)) (some (.int c.2)) (fun q hq => hc q (List.mem_cons_of_mem _ hq)) (by simp; omega)
      refine ⟨x4', x5', ?_⟩
      have s0 : exec l.G (l.call k) l.sub (match b26l0 with | .cons a _ => a | _ => .pass) (ordE r t (some (.int c.1)) (some (.int c.2))) [o, .lst (bs.map D.int), .lst (xs.map D.int)] = .nx (ordE r t (some (.int c.1)) (some (.int c.2))) [o, .lst (bs.map D.int ++ [.c (.int 0)]), .lst (xs.map D.int)] := by
        unfold b26l0
        dsimp only
        simp [ok_mid, idx_two, a1, a2, hg, ap]
      have s1 : exec l.G (l.call k) l.sub (match b26l0 with | .cons _ (.cons a _) => a | _ => .pass) (ordE r t (some (.int c.1)) (some (.int c.2))) [o, .lst (bs.map D.int ++ [.c (.int 0)]), .lst (xs.map D.int)] = .nx (ordE r t (some (.int c.1)) (some (.int c.2))) [o, .lst (bs.map D.int ++ [.c (.int 0)]), .lst (xs.map D.int)] := by
        unfold b26l0
        dsimp only
        simp [idx_mid]
      have st : execs l.G (l.call k) l.sub b26l0 (ordE r t (some (.int c.1)) (some (.int c.2))) [o, .lst (bs.map D.int), .lst (xs.map D.int)] = .nx (ordE r t (some (.int c.1)) (some (.int c.2))) [o, .lst (bs.map D.int ++ [.c (.int 0)]), .lst (xs.map D.int)] := by
        rw [show b26l0 = .cons (match b26l0 with | .cons a _ => a | _ => .pass) (.cons (match b26l0 with | .cons _ (.cons a _) => a | _ => .pass) .nil) from rfl, exs_nx s0, rest_nx s1, rest_nil]
      rw [st, turn_nx]
      have eo : ordB xs (c :: cs) = 0 :: ordB xs cs := if_neg hg
      have ef : ordF xs (c :: cs) = ordF xs cs := if_neg hg
      rw [eo, ef]
      simpa using e
theorem lord_ok {cs : List (Int × Int)} {xs : List Int} {kd : D} {o : Ob} (hk : 1 ≤ k) (ho : BagOk o) (hd : kd = .tup (xs.map D.int) ∨ kd = .lst (xs.map D.int)) (hn : Net xs.length cs) (hl : cs.length ≤ 1000) : trim 1 (l.call k 26 [kd, dNet cs] [o]) = .ok (.tup [dInts (ordB xs cs), dInts (ordF xs cs)]) [o] := by
  obtain ⟨k, rfl⟩ : ∃ j, k = j + 1 := ⟨k - 1, by omega⟩
  rw [l.run (d := ⟨6, 2, b26⟩) (σ := [some kd, some (dNet cs), none, none, none, none]) rfl rfl rfl]
  obtain ⟨x4, x5, e⟩ := lord_loop (k := k) (r := some kd) (t := some (dNet cs)) (o := o) cs xs [] none none hn (by simp; omega)
  rw [show ([] : List Int).map D.int = [] from rfl, List.nil_append] at e
  show trim 1 (execs l.G (l.call k) l.sub b26 _ _).res = _
  have q0 : exec l.G (l.call k) l.sub (match b26 with | .cons a _ => a | _ => .pass) [some kd, some (dNet cs), none, none, none, none] [o] = .nx (ordE (some kd) (some (dNet cs)) none none) [o, .lst [], .lst (xs.map D.int)] := by
    unfold b26
    dsimp only
    rcases hd with rfl | rfl <;> simp
  have q1 : exec l.G (l.call k) l.sub (match b26 with | .cons _ (.cons a _) => a | _ => .pass) (ordE (some kd) (some (dNet cs)) none none) [o, .lst [], .lst (xs.map D.int)] = .nx (ordE (some kd) (some (dNet cs)) x4 x5) [o, .lst ((ordB xs cs).map D.int), .lst ((ordF xs cs).map D.int)] := by
    unfold b26
    dsimp only
    simp [itemsOf]
    exact e
  have s1 : see [o, .lst ((ordB xs cs).map D.int), .lst ((ordF xs cs).map D.int)] (.ref 1) = .lst ((ordB xs cs).map D.int) := rfl
  have s2 : see [o, .lst ((ordB xs cs).map D.int), .lst ((ordF xs cs).map D.int)] (.ref 2) = .lst ((ordF xs cs).map D.int) := rfl
  have q2 : exec l.G (l.call k) l.sub (match b26 with | .cons _ (.cons _ (.cons a _)) => a | _ => .pass) (ordE (some kd) (some (dNet cs)) x4 x5) [o, .lst ((ordB xs cs).map D.int), .lst ((ordF xs cs).map D.int)] = .ret (.tup [dInts (ordB xs cs), dInts (ordF xs cs)]) [o, .lst ((ordB xs cs).map D.int), .lst ((ordF xs cs).map D.int)] := by
    unfold b26
    dsimp only
    simp [s1, s2]
    exact ⟨rfl, rfl⟩
  rw [show b26 = .cons (match b26 with | .cons a _ => a | _ => .pass) (.cons (match b26 with | .cons _ (.cons a _) => a | _ => .pass) (.cons (match b26 with | .cons _ (.cons _ (.cons a _)) => a | _ => .pass) .nil)) from rfl, exs_nx q0, rest_nx q1, rest_ret q2]
  show trim 1 (.ok _ _) = _
  rw [trim_ok (by simp [ints_pu]) (by have := bag_pu ho; simp [Pu, puO, ints_pu] at this ⊢; exact this)]
  rfl
end
end Lk53

set_option Elab.async false
set_option maxRecDepth 100000
set_option maxHeartbeats 1000000
namespace Lk53
open Rf
/-! ### numbers, sorted -/
theorem ints_get : ∀ l : List Int, intsD (l.map D.int) = some l
  | [] => rfl
  | x :: l => by
    show (intsD (l.map D.int)).map (x :: ·) = _
    rw [ints_get l]
    rfl
theorem dep_map {α : Type} (f : α → D) {n : Nat} : ∀ {xs : List α}, (∀ x ∈ xs, depD (f x) ≤ n) → depDs (xs.map f) ≤ n
  | [], _ => Nat.zero_le _
  | x :: xs, h => by
    simp only [List.map_cons, depDs]
    exact Nat.max_le.mpr ⟨h x (List.mem_cons_self ..), dep_map f fun y hy => h y (List.mem_cons_of_mem _ hy)⟩
theorem pln_map {α : Type} (f : α → D) : ∀ {xs : List α}, (∀ x ∈ xs, plnD (f x) = true ∧ sgD (f x) = true) → plnDs (xs.map f) = true ∧ sgDs (xs.map f) = true
  | [], _ => ⟨rfl, rfl⟩
  | x :: xs, h => by
    obtain ⟨a, b⟩ := h x (List.mem_cons_self ..)
    obtain ⟨c, d⟩ := pln_map f (xs := xs) fun y hy => h y (List.mem_cons_of_mem _ hy)
    exact ⟨by simp [plnDs, a, c], by simp [sgDs, b, d]⟩
theorem ints_eqL (l : List Int) : Rf.eqOk (.lst (l.map D.int)) = true := by
  obtain ⟨a, b⟩ := pln_map D.int (xs := l) fun q hq => by simp [plnD, sgD]
  have h1 := dep_map D.int (n := 0) (xs := l) fun x hx => Nat.le_refl _
  have h2 : depDs (l.map D.int) ≤ 0 := h1
  show (plnDs (l.map D.int) && sgDs (l.map D.int) && decide (depDs (l.map D.int) + 1 ≤ 64)) = true
  rw [a, b, decide_eq_true (by omega)]
  rfl
theorem ints_eqT (l : List Int) : Rf.eqOk (dInts l) = true := by
  obtain ⟨a, b⟩ := pln_map D.int (xs := l) fun q hq => by simp [plnD, sgD]
  have h1 := dep_map D.int (n := 0) (xs := l) fun x hx => Nat.le_refl _
  simp only [Rf.eqOk, dInts, plnD, sgD, depD, a, b, Bool.and_eq_true, decide_eq_true_eq, true_and]
  omega
theorem ints_eqOk (l : List Int) : Rf.eqOk (.lst (l.map D.int)) = true ∧ Rf.eqOk (dInts l) = true := ⟨ints_eqL l, ints_eqT l⟩
theorem eqDs_ints : ∀ a b : List Int, eqDs (a.map D.int) (b.map D.int) = decide (a = b)
  | [], [] => by simp [eqDs]
  | [], _ :: _ => by simp [eqDs]
  | _ :: _, [] => by simp [eqDs]
  | x :: a, y :: b => by
    simp only [List.map_cons, eqDs, eqD, eqDs_ints a b, List.cons.injEq, Bool.decide_and]
theorem cmp_intsL {a b : List Int} : cmpD .ne (.lst (a.map D.int)) (.lst (b.map D.int)) = some (!decide (a = b)) := by
  show (eqD? _ _).map (!·) = _
  unfold eqD?
  rw [(ints_eqOk a).1, (ints_eqOk b).1]
  simp [eqD, eqDs_ints]
theorem cmp_intsT {a b : List Int} : cmpD .eq (dInts a) (dInts b) = some (decide (a = b)) := by
  show eqD? _ _ = _
  unfold eqD?
  rw [(ints_eqOk a).2, (ints_eqOk b).2]
  simp [eqD, eqDs_ints, dInts]
theorem cmp_intsN {a b : List Int} : cmpD .ne (dInts a) (dInts b) = some (!decide (a = b)) := by
  show (cmpD .eq _ _).map (!·) = _
  rw [cmp_intsT]
  rfl
theorem sorted_eq : ∀ {a b : List Int}, a.Pairwise (· ≤ ·) → b.Pairwise (· ≤ ·) → a.Perm b → a = b
  | [], b, _, _, h => (List.nil_perm.mp h).symm
  | x :: xs, [], _, _, h => by have := h.length_eq; simp at this
  | x :: xs, y :: ys, ha, hb, h => by
    obtain ⟨a1, a2⟩ := List.pairwise_cons.mp ha
    obtain ⟨b1, b2⟩ := List.pairwise_cons.mp hb
    have e : x = y := by
      have m1 : x ∈ y :: ys := h.mem_iff.mp (List.mem_cons_self ..)
      have m2 : y ∈ x :: xs := h.mem_iff.mpr (List.mem_cons_self ..)
      rcases List.mem_cons.mp m1 with e | m1
      · exact e
      · rcases List.mem_cons.mp m2 with e | m2
        · exact e.symm
        · have := a1 y m2
          have := b1 x m1
          omega
    subst e
    rw [sorted_eq a2 b2 (h.cons_inv)]
theorem rI_sorted : ∀ (n : Nat) (lo : Int), (rI lo 1 n).Pairwise (· ≤ ·)
  | 0, _ => List.Pairwise.nil
  | n + 1, lo => List.pairwise_cons.mpr ⟨fun x hx => by have := (rI_mem (c := 1) (m := 1) (by decide) (by decide) n (lo + 1) x hx).1; omega, rI_sorted n (lo + 1)⟩
theorem sort_perm {os : List Int} {n : Nat} (h : os.Perm (rI 0 1 n)) : sortI os = rI 0 1 n := sorted_eq (sortI_sorted os) (rI_sorted n 0) ((sortI_perm os).trans h)
section
variable {k : Nat} {S : Store}
/-! ### mixed -/
theorem mixed_loop {td : D} (hk : 1 ≤ k) : ∀ (xs ys : List Int) (o : Ob) (x3 : Option D), BagOk o → ys.length + xs.length ≤ 100 →
    ∃ (ys' : List Int) (o' : Ob) (x3' : Option D), forL (.nm 3) (execs l.G (l.call k) l.sub b24l0) (xs.map D.int) [some (.ref 0), some td, some (.ref 1), x3] [o, .lst (ys.map D.int)] = .nx [some (.ref 0), some td, some (.ref 1), x3'] [o', .lst (ys'.map D.int)] ∧ BagOk o' ∧ ys'.Perm (xs ++ ys)
  | [], ys, o, x3, ho, _ => ⟨ys, o, x3, rfl, ho, List.Perm.refl _⟩
  | x :: xs, ys, o, x3, ho, hl => by
    rw [List.length_cons] at hl
    have pu : Pu [Ob.lst (ys.map D.int)] := by simp [Pu, puO, ints_pu]
    obtain ⟨v, o1, e1, ho1, v0, v1⟩ := take_call (k := k) (m := (ys.length : Int) + 1) (R := [Ob.lst (ys.map D.int)]) hk ho pu (by omega) (by omega)
    simp only [List.length_cons, List.length_nil, Nat.zero_add, Nat.reduceAdd] at e1
    obtain ⟨ys', o', x3', e, ho', pm⟩ := mixed_loop hk (td := td) xs (ys.take v.toNat ++ [x] ++ ys.drop v.toNat) o1 (some (.int x)) ho1 (by simp; omega)
    refine ⟨ys', o', x3', ?_, ho', ?_⟩
    · rw [List.map_cons, forL_cons]
      have ins : mthD .insert (.ref 1) [.c (.int v), .c (.int x)] [o1, Ob.lst (ys.map D.int)] = .ok .non [o1, Ob.lst ((ys.take v.toNat ++ [x] ++ ys.drop v.toNat).map D.int)] := by
        show (if _ then _ else _) = _
        rw [if_pos (by rw [List.length_map]; unfold LINE; omega)]
        simp [List.map_append, List.map_take, List.map_drop]
      have ok : mthOk .insert (.ref 1) [o, Ob.lst (ys.map D.int)] = true := rfl
      have se : see [o, Ob.lst (ys.map D.int)] (.ref 1) = .lst (ys.map D.int) := rfl
      simp
      unfold b24l0
      simp [-List.map_append, -List.map_take, -List.append_assoc, ok, se, e1, ins]
      exact e
    · refine pm.trans ?_
      have p1 : (ys.take v.toNat ++ [x] ++ ys.drop v.toNat).Perm (x :: ys) := by
        rw [List.append_assoc, List.singleton_append]
        refine List.perm_middle.trans ?_
        rw [List.take_append_drop]
      exact (List.Perm.append_left xs p1).trans List.perm_middle
theorem trim_ref {o : Ob} {xs : List D} (ho : BagOk o) (hx : puDs xs = true) : trim 1 (.ok (.ref 1) [o, .lst xs]) = .ok (.lst xs) [o] := trim_end (S := [o]) (bagS ho (rfl : Pu [])) hx
theorem mixed_ok {xs : List Int} {o : Ob} (hk : 2 ≤ k) (ho : BagOk o) (hl : xs.length ≤ 100) : ∃ (ys : List Int) (o' : Ob), trim 1 (l.call k 24 [.ref 0, .lst (xs.map D.int)] [o]) = .ok (.lst (ys.map D.int)) [o'] ∧ BagOk o' ∧ ys.Perm xs := by
  obtain ⟨k, rfl⟩ : ∃ j, k = j + 1 := ⟨k - 1, by omega⟩
  rw [l.run (d := ⟨4, 2, b24⟩) (σ := [some (.ref 0), some (.lst (xs.map D.int)), none, none]) rfl rfl rfl]
  obtain ⟨ys, o', x3, e, ho', pm⟩ := mixed_loop (k := k) (td := .lst (xs.map D.int)) (by omega) xs [] o none ho (by simpa using hl)
  rw [show ([] : List Int).map D.int = [] from rfl] at e
  refine ⟨ys, o', ?_, ho', by simpa using pm⟩
  dsimp only
  unfold b24
  rw [step1]
  simp
  rw [step2]
  simp [itemsOf, e]
  rw [step2]
  simp
  exact trim_ref ho' (ints_pu ys)
/-! ### bits_to -/
def kysL (os : List Int) (n : Nat) : List Int := (rI 0 1 n).map fun a => ((os.idxOf a : Nat) : Int)
theorem kys_len (os : List Int) (n : Nat) : (kysL os n).length = n := by
  unfold kysL
  rw [List.length_map, rI_len]
theorem kys_bound {os : List Int} {n : Nat} (h : os.Perm (rI 0 1 n)) (hn : n ≤ 16) : ∀ x ∈ kysL os n, -1000 ≤ x ∧ x ≤ 1000 := fun x hx => by
  obtain ⟨a, ha, rfl⟩ := List.mem_map.mp hx
  have : os.idxOf a < os.length := List.idxOf_lt_length_of_mem (h.mem_iff.mpr ha)
  have := h.length_eq
  rw [rI_len] at this
  omega
theorem tix_ok {os : List Int} {a : Int} (h : a ∈ os) : tixD (os.map D.int) (.c (.int a)) = some (.c (.int ((os.idxOf a : Nat) : Int))) := by
  show (intsD (os.map D.int)).bind _ = _
  rw [ints_get, Option.bind_some, if_pos h]
theorem rgl_n {n : Nat} (h : n ≤ 100) : rglD (.c (.int (n : Int))) = some ((rI 0 1 n).map D.int) := by
  have c : small62 (n : Int) = true ∧ (n : Int) ≤ LINE := by
    simp only [small62, LINE, Bool.and_eq_true, decide_eq_true_eq]
    omega
  show (if small62 (n : Int) = true ∧ (n : Int) ≤ LINE then some (rngN 0 1 (n : Int).toNat) else none) = _
  rw [if_pos c, Int.toNat_natCast, rngN_I]
theorem rga_n {n : Nat} (h : n ≤ 100) : rngI [.c (.int (n : Int))] = some ((rI 0 1 n).map D.int) := by
  rw [rngA (by omega) (by omega), Int.toNat_natCast]
def toD (os : List Int) (n : Nat) (cs : List (Int × Int)) : D := if ordF (kysL os n) cs = rI 0 1 n then dInts (ordB (kysL os n) cs) else .non
theorem to_ok {os : List Int} {n : Nat} {cs : List (Int × Int)} {o : Ob} (hk : 8 ≤ k) (ho : BagOk o) (hp : os.Perm (rI 0 1 n)) (h1 : 1 ≤ n) (h16 : n ≤ 16) (hn : Net n cs) (hl : cs.length ≤ 1000) : l.call k 13 [.ptup (os.map D.int), dNet cs] [o] = .ok (toD os n cs) [o] := by
  obtain ⟨k, rfl⟩ : ∃ j, k = j + 1 := ⟨k - 1, by omega⟩
  rw [l.run (d := ⟨5, 2, b13⟩) (σ := [some (.ptup (os.map D.int)), some (dNet cs), none, none, none]) rfl rfl rfl]
  have hS : Pu [o] := bagS ho (rfl : Pu [])
  have ol : os.length = n := by have := hp.length_eq; rw [rI_len] at this; exact this
  have om : ∀ x ∈ os, 0 ≤ x ∧ x ≤ 16 := fun x hx => by
    have := rI_mem (c := 1) (m := 1) (by decide) (by decide) n 0 x (hp.mem_iff.mp hx)
    omega
  have th : thD (dInts os) = true := ints_th (by omega) fun x hx => by have := om x hx; omega
  have tu := tupOf_all (k := k) (f := 1) (q := idxB) (S := [o]) (by omega) hS th fun x hx => index_ok (by omega) hS hx
  have ai : allB idxB (dInts os) = true := by
    show (os.map D.int).all idxB = true
    rw [List.all_map, List.all_eq_true]
    exact fun x hx => decide_eq_true (om x hx).1
  rw [ai] at tu
  have tu' : trim 1 (l.call k 3 [.tup (os.map D.int), .fn 1] [o]) = .ok (.bl true) [o] := trim_pu (n := 1) (by simp) hS rfl tu
  have kl := kys_len os n
  have kb := kys_bound hp h16
  have bf := bfor_ok (k := k) (S := [o]) (xs := kysL os n) (cs := cs) (by omega) hS (by omega) (by omega) kb (by rw [kl]; exact hn) hl
  have ld := trim_pu (n := 1) (by simp [ints_pu]) hS rfl (led_ok (k := k) (S := [o]) (xs := kysL os n) (cs := cs) (bs := ordB (kysL os n) cs) (by omega) hS (by omega) (by omega) (by rw [kl]; exact hn) hl (ordB_len _ _).symm (ordB_bit _ _))
  rw [led_ord] at ld
  simp only [List.length_cons, List.length_nil, Nat.zero_add] at bf
  have srt : bltD .sorted [.tup (os.map D.int)] = some (.lst ((rI 0 1 n).map D.int)) := by
    show (intsD (os.map D.int)).map _ = _
    rw [ints_get, Option.map_some, sort_perm hp]
  have rgl := rgl_n (n := n) (by omega)
  have rga := rga_n (n := n) (by omega)
  obtain ⟨z, hz⟩ : ∃ z : Int, (n : Int) = z := ⟨_, rfl⟩
  have olz : (os.length : Int) = z := by rw [ol]; exact hz
  rw [hz] at rgl rga
  generalize hY : (rI 0 1 n).map D.int = Y at rgl rga
  have ne := cmp_intsL (a := rI 0 1 n) (b := rI 0 1 n)
  rw [decide_eq_true rfl] at ne
  have q0 : exec l.G (l.call k) l.sub (match b13 with | .cons a _ => a | _ => .pass) [some (.ptup (os.map D.int)), some (dNet cs), none, none, none] [o] = .nx [some (.ptup (os.map D.int)), some (dNet cs), none, none, none] [o] := by
    unfold b13
    dsimp only
    rw [hY] at srt ne
    simp [tu', srt, olz, rgl, ne]
  have q1 : exec l.G (l.call k) l.sub (match b13 with | .cons _ (.cons a _) => a | _ => .pass) [some (.ptup (os.map D.int)), some (dNet cs), none, none, none] [o] = .nx [some (.ptup (os.map D.int)), some (dNet cs), some (dInts (kysL os n)), none, none] [o] := by
    unfold b13
    dsimp only
    have key : ∀ f : D → Store → Res (Option D), (∀ a ∈ rI 0 1 n, f (.int a) [o] = .ok (some (.c (.int ((os.idxOf a : Nat) : Int)))) [o]) → turns f ((rI 0 1 n).map D.int) [o] = .ok ((rI 0 1 n).map fun a => .c (.int ((os.idxOf a : Nat) : Int))) [o] := fun f h => turns_mapF _ _ h
    rw [hY] at key
    simp [olz, rga]
    rw [key _ fun a ha => by simp [cturn, tix_ok (hp.mem_iff.mpr ha)]]
    simp [dInts, kysL]
  have q2 : exec l.G (l.call k) l.sub (match b13 with | .cons _ (.cons _ (.cons a _)) => a | _ => .pass) [some (.ptup (os.map D.int)), some (dNet cs), some (dInts (kysL os n)), none, none] [o] = .nx [some (.ptup (os.map D.int)), some (dNet cs), some (dInts (kysL os n)), none, some (dInts (ordB (kysL os n) cs))] [o] := by
    unfold b13
    dsimp only
    simp [bf]
  have ceq := cmp_intsT (a := ordF (kysL os n) cs) (b := rI 0 1 n)
  have q3 : exec l.G (l.call k) l.sub (match b13 with | .cons _ (.cons _ (.cons _ (.cons a _))) => a | _ => .pass) [some (.ptup (os.map D.int)), some (dNet cs), some (dInts (kysL os n)), none, some (dInts (ordB (kysL os n) cs))] [o] = .ret (toD os n cs) [o] := by
    unfold b13 toD
    dsimp only
    by_cases hc : ordF (kysL os n) cs = rI 0 1 n
    · rw [hc] at ld ceq
      rw [if_pos hc]
      have : cmpD .eq (dInts (rI 0 1 n)) (.tup Y) = some true := by rw [decide_eq_true rfl] at ceq; rw [← hY]; exact ceq
      simp [ld, olz, rgl, this]
    · rw [if_neg hc]
      have : cmpD .eq (dInts (ordF (kysL os n) cs)) (.tup Y) = some false := by rw [decide_eq_false hc] at ceq; rw [← hY]; exact ceq
      simp [ld, olz, rgl, this]
  show (execs l.G (l.call k) l.sub b13 _ _).res = _
  rw [show b13 = .cons (match b13 with | .cons a _ => a | _ => .pass) (.cons (match b13 with | .cons _ (.cons a _) => a | _ => .pass) (.cons (match b13 with | .cons _ (.cons _ (.cons a _)) => a | _ => .pass) (.cons (match b13 with | .cons _ (.cons _ (.cons _ (.cons a _))) => a | _ => .pass) .nil))) from rfl, exs_nx q0, rest_nx q1, rest_nx q2, rest_ret q3]
  rfl
end
end Lk53

set_option Elab.async false
set_option maxRecDepth 100000
set_option maxHeartbeats 1000000
namespace Lk53
open Rf
/-! ### all rows of 0 and 1 -/
def rowsN : Nat → List (List Int) → List (List Int)
  | 0, rs => rs
  | n + 1, rs => rowsN n (rs.map (fun r => r ++ [0]) ++ rs.map fun r => r ++ [1])
theorem rows_fact {m : Nat} : ∀ (n : Nat) (a : Nat) (rs : List (List Int)), a + n = m → (∀ r ∈ rs, r.length = a ∧ ∀ x ∈ r, 0 ≤ x ∧ x ≤ 1) → ∀ r ∈ rowsN n rs, r.length = m ∧ ∀ x ∈ r, 0 ≤ x ∧ x ≤ 1
  | 0, a, rs, h, hr, r, hm => by
    have := hr r hm
    exact ⟨by omega, this.2⟩
  | n + 1, a, rs, h, hr, r, hm => by
    refine rows_fact n (a + 1) _ (by omega) (fun q hq => ?_) r hm
    have one : ∀ (v : Int) (r0 : List Int), r0 ∈ rs → 0 ≤ v → v ≤ 1 → (r0 ++ [v]).length = a + 1 ∧ ∀ x ∈ r0 ++ [v], 0 ≤ x ∧ x ≤ 1 := fun v r0 h0 v0 v1 => by
      have := hr r0 h0
      refine ⟨by simp [this.1], fun x hx => ?_⟩
      rcases List.mem_append.mp hx with hx | hx
      · exact this.2 x hx
      · cases List.mem_singleton.mp hx
        exact ⟨v0, v1⟩
    rcases List.mem_append.mp hq with hq | hq
    · obtain ⟨r0, h0, rfl⟩ := List.mem_map.mp hq
      exact one 0 r0 h0 (by decide) (by decide)
    · obtain ⟨r0, h0, rfl⟩ := List.mem_map.mp hq
      exact one 1 r0 h0 (by decide) (by decide)
section
variable {k : Nat} {S : Store}
theorem row_add (v : Int) {r : List Int} (h : r.length ≤ 100) : binD .add (dInts r) (.tup [.c (.int v)]) = some (dInts (r ++ [v])) := by
  have := bin_addT (xs := r.map D.int) (ys := [.c (.int v)]) (by simp [LINE]; omega)
  show binD .add (.tup (r.map D.int)) _ = _
  rw [this]
  simp [dInts]
theorem rows_turn (v : Int) {rs : List (List Int)} (f : D → Store → Res (Option D)) (h : ∀ r ∈ rs, f (dInts r) S = .ok (some (dInts (r ++ [v]))) S) : turns f (rs.map dInts) S = .ok ((rs.map fun r => r ++ [v]).map dInts) S := by
  rw [turns_mapF dInts (fun r => dInts (r ++ [v])) h, List.map_map]
  rfl
theorem half_pow {a n : Nat} (h : a * 2 ^ (n + 1) ≤ 1000) : (a + a) * 2 ^ n ≤ 1000 ∧ a ≤ 1000 := by
  rw [Nat.pow_succ, Nat.mul_comm (2 ^ n) 2, ← Nat.mul_assoc, Nat.mul_two] at h
  refine ⟨h, ?_⟩
  have : 1 ≤ 2 ^ n := Nat.one_le_two_pow
  have := Nat.mul_le_mul_left (a + a) this
  omega
theorem all_loop {t : Option D} : ∀ (xs : List D) (rs : List (List Int)) (x2 x3 : Option D), (∀ r ∈ rs, r.length + xs.length ≤ 100) → rs.length * 2 ^ xs.length ≤ 1000 →
    ∃ x2' x3', forL (.nm 2) (execs l.G (l.call k) l.sub b14l0) xs [t, some (.lst (rs.map dInts)), x2, x3] S = .nx [t, some (.lst ((rowsN xs.length rs).map dInts)), x2', x3'] S
  | [], rs, x2, x3, _, _ => ⟨x2, x3, rfl⟩
  | x :: xs, rs, x2, x3, hr, hl => by
    rw [List.length_cons] at hr hl
    obtain ⟨h2, h3⟩ := half_pow hl
    obtain ⟨x2', x3', e⟩ := all_loop (t := t) xs (rs.map (fun r => r ++ [0]) ++ rs.map fun r => r ++ [1]) (some x) x3 (fun r h => by
      rcases List.mem_append.mp h with h | h
      · obtain ⟨r0, h0, rfl⟩ := List.mem_map.mp h
        have := hr r0 h0
        simp; omega
      · obtain ⟨r0, h0, rfl⟩ := List.mem_map.mp h
        have := hr r0 h0
        simp; omega) (by rw [List.length_append, List.length_map, List.length_map]; exact h2)
    refine ⟨x2', x3', ?_⟩
    have st : execs l.G (l.call k) l.sub b14l0 [t, some (.lst (rs.map dInts)), some x, x3] S = .nx [t, some (.lst ((rs.map (fun r => r ++ [0]) ++ rs.map fun r => r ++ [1]).map dInts)), some x, x3] S := by
      have ad := bin_addL (xs := (rs.map fun r => r ++ [0]).map dInts) (ys := (rs.map fun r => r ++ [1]).map dInts) (by simp only [List.length_map, LINE]; omega)
      rw [← List.map_append] at ad
      unfold b14l0
      simp [-List.map_map, -List.map_append, itemsOf]
      rw [rows_turn 0 _ fun r h => by
        have := row_add 0 (r := r) (by have := hr r h; omega)
        simp [cturn, this]]
      simp [-List.map_map, -List.map_append]
      rw [rows_turn 1 _ fun r h => by
        have := row_add 1 (r := r) (by have := hr r h; omega)
        simp [cturn, this]]
      simp [-List.map_map, -List.map_append, ad]
    rw [forL_cons]
    rw [show asg (.nm 2) x [t, some (.lst (rs.map dInts)), x2, x3] = some [t, some (.lst (rs.map dInts)), some x, x3] from rfl]
    dsimp only
    rw [st, turn_nx, e]
    rfl
theorem lall_loop {t c : Option D} : ∀ (xs : List D) (rs : List (List Int)) (x3 x4 : Option D), (∀ r ∈ rs, r.length + xs.length ≤ 100) → rs.length * 2 ^ xs.length ≤ 1000 →
    ∃ x3' x4', forL (.nm 3) (execs l.G (l.call k) l.sub b27l0) xs [t, c, some (.lst (rs.map dInts)), x3, x4] S = .nx [t, c, some (.lst ((rowsN xs.length rs).map dInts)), x3', x4'] S
  | [], rs, x3, x4, _, _ => ⟨x3, x4, rfl⟩
  | x :: xs, rs, x3, x4, hr, hl => by
    rw [List.length_cons] at hr hl
    obtain ⟨h2, h3⟩ := half_pow hl
    obtain ⟨x3', x4', e⟩ := lall_loop (t := t) (c := c) xs (rs.map (fun r => r ++ [0]) ++ rs.map fun r => r ++ [1]) (some x) x4 (fun r h => by
      rcases List.mem_append.mp h with h | h
      · obtain ⟨r0, h0, rfl⟩ := List.mem_map.mp h
        have := hr r0 h0
        simp; omega
      · obtain ⟨r0, h0, rfl⟩ := List.mem_map.mp h
        have := hr r0 h0
        simp; omega) (by rw [List.length_append, List.length_map, List.length_map]; exact h2)
    refine ⟨x3', x4', ?_⟩
    have st : execs l.G (l.call k) l.sub b27l0 [t, c, some (.lst (rs.map dInts)), some x, x4] S = .nx [t, c, some (.lst ((rs.map (fun r => r ++ [0]) ++ rs.map fun r => r ++ [1]).map dInts)), some x, x4] S := by
      have ad := bin_addL (xs := (rs.map fun r => r ++ [0]).map dInts) (ys := (rs.map fun r => r ++ [1]).map dInts) (by simp only [List.length_map, LINE]; omega)
      rw [← List.map_append] at ad
      unfold b27l0
      simp [-List.map_map, -List.map_append, itemsOf]
      rw [rows_turn 0 _ fun r h => by
        have := row_add 0 (r := r) (by have := hr r h; omega)
        simp [cturn, this]]
      simp [-List.map_map, -List.map_append]
      rw [rows_turn 1 _ fun r h => by
        have := row_add 1 (r := r) (by have := hr r h; omega)
        simp [cturn, this]]
      simp [-List.map_map, -List.map_append, ad]
    rw [forL_cons]
    rw [show asg (.nm 3) x [t, c, some (.lst (rs.map dInts)), x3, x4] = some [t, c, some (.lst (rs.map dInts)), some x, x4] from rfl]
    dsimp only
    rw [st, turn_nx, e]
    rfl
theorem rows_pu (rs : List (List Int)) : puDs (rs.map dInts) = true := pus_map dInts (fun x => by simp [ints_pu]) rs
theorem allb_ok {n : Nat} {z : Int} (hk : 1 ≤ k) (hS : Pu S) (hz : (n : Int) = z) (hn : n ≤ 9) : trim S.length (l.call k 14 [.int z] S) = .ok (.lst ((rowsN n [[]]).map dInts)) S := by
  obtain ⟨k, rfl⟩ : ∃ j, k = j + 1 := ⟨k - 1, by omega⟩
  rw [l.run (d := ⟨4, 1, b14⟩) (σ := [some (.int z), none, none, none]) rfl rfl rfl]
  have p9 : 2 ^ n ≤ 2 ^ 9 := Nat.pow_le_pow_right (by decide) hn
  obtain ⟨x2, x3, e⟩ := all_loop (k := k) (S := S) (t := some (.int z)) ((rI 0 1 n).map D.int) [[]] none none (by simp [rI_len]; omega) (by rw [List.length_map, rI_len]; simp; omega)
  rw [List.length_map, rI_len] at e
  have rga := rga_n (n := n) (by omega)
  rw [hz] at rga
  generalize (rI 0 1 n).map D.int = Y at rga e
  have q0 : exec l.G (l.call k) l.sub (match b14 with | .cons a _ => a | _ => .pass) [some (.int z), none, none, none] S = .nx [some (.int z), some (.lst ([[]].map dInts)), none, none] S := by
    unfold b14
    dsimp only
    simp [dInts]
  have q1 : exec l.G (l.call k) l.sub (match b14 with | .cons _ (.cons a _) => a | _ => .pass) [some (.int z), some (.lst ([[]].map dInts)), none, none] S = .nx [some (.int z), some (.lst ((rowsN n [[]]).map dInts)), x2, x3] S := by
    unfold b14
    dsimp only
    have ei : evi l.G (l.call k) (.rng (.cons (.var 0) .nil)) [some (.int z), some (.lst ([[]].map dInts)), none, none] S = .ok Y S := by
      simp [rga]
    rw [ex_for, ei, out_ok, e]
  have q2 : exec l.G (l.call k) l.sub (match b14 with | .cons _ (.cons _ (.cons a _)) => a | _ => .pass) [some (.int z), some (.lst ((rowsN n [[]]).map dInts)), x2, x3] S = .ret (.lst ((rowsN n [[]]).map dInts)) S := by
    unfold b14
    dsimp only
    simp
  show trim S.length (execs l.G (l.call k) l.sub b14 _ _).res = _
  rw [show b14 = .cons (match b14 with | .cons a _ => a | _ => .pass) (.cons (match b14 with | .cons _ (.cons a _) => a | _ => .pass) (.cons (match b14 with | .cons _ (.cons _ (.cons a _)) => a | _ => .pass) .nil)) from rfl, exs_nx q0, rest_nx q1, rest_ret q2]
  exact trim_same (by simp [rows_pu]) hS rfl
def goodR (cs : List (Int × Int)) (r : List Int) : Bool := decide (ordF r cs = sortI r)
theorem srt_ints (r : List Int) : bltD .sorted [dInts r] = some (.lst ((sortI r).map D.int)) := by
  show (intsD (r.map D.int)).map _ = _
  rw [ints_get, Option.map_some]
theorem does_loop {n : Nat} {cs : List (Int × Int)} {t : Option D} {o : Ob} (hk : 8 ≤ k) (ho : BagOk o) (h1 : 1 ≤ n) (h16 : n ≤ 16) (hn : Net n cs) (hl : cs.length ≤ 1000) : ∀ (rs : List (List Int)) (x2 : Option D), (∀ r ∈ rs, r.length = n ∧ ∀ x ∈ r, 0 ≤ x ∧ x ≤ 1) →
    ∃ x2', forL (.nm 2) (execs l.G (l.call k) l.sub b15l0) (rs.map dInts) [t, some (dNet cs), x2] [o] = if rs.all (goodR cs) then .nx [t, some (dNet cs), x2'] [o] else .ret (.bl false) [o]
  | [], x2, _ => ⟨x2, rfl⟩
  | r :: rs, x2, hr => by
    obtain ⟨rl, rb⟩ := hr r (List.mem_cons_self ..)
    have hS : Pu [o] := bagS ho (rfl : Pu [])
    obtain ⟨x2', e⟩ := does_loop (t := t) hk ho h1 h16 hn hl rs (some (dInts r)) fun q hq => hr q (List.mem_cons_of_mem _ hq)
    have bf := bfor_ok (k := k) (S := [o]) (xs := r) (cs := cs) (by omega) hS (by omega) (by omega) (fun x hx => by have := rb x hx; omega) (by rw [rl]; exact hn) hl
    have ld := trim_pu (n := 1) (by simp [ints_pu]) hS rfl (led_ok (k := k) (S := [o]) (xs := r) (cs := cs) (bs := ordB r cs) (by omega) hS (by omega) (by omega) (by rw [rl]; exact hn) hl (ordB_len _ _).symm (ordB_bit _ _))
    rw [led_ord] at ld
    simp only [List.length_cons, List.length_nil, Nat.zero_add] at bf
    have sr := srt_ints r
    have cn : cmpD .ne (dInts (ordF r cs)) (.tup ((sortI r).map D.int)) = some (!goodR cs r) := cmp_intsN
    rw [List.map_cons, forL_cons]
    rw [show asg (.nm 2) (dInts r) [t, some (dNet cs), x2] = some [t, some (dNet cs), some (dInts r)] from rfl]
    dsimp only
    rw [List.all_cons]
    cases hg : goodR cs r with
    | true =>
      rw [hg] at cn
      refine ⟨x2', ?_⟩
      have st : execs l.G (l.call k) l.sub b15l0 [t, some (dNet cs), some (dInts r)] [o] = .nx [t, some (dNet cs), some (dInts r)] [o] := by
        unfold b15l0
        simp [bf, ld, sr, cn]
      rw [st, turn_nx, e]
      rfl
    | false =>
      rw [hg] at cn
      refine ⟨x2', ?_⟩
      have st : execs l.G (l.call k) l.sub b15l0 [t, some (dNet cs), some (dInts r)] [o] = .ret (.bl false) [o] := by
        unfold b15l0
        simp [bf, ld, sr, cn]
      rw [st, turn_ret]
      rfl
theorem glb_tried : l.G 1 = some (.c (.int 10)) := by rfl
theorem does_ok {n : Nat} {z : Int} {cs : List (Int × Int)} {o : Ob} (hk : 9 ≤ k) (ho : BagOk o) (hz : (n : Int) = z) (h1 : 1 ≤ n) (h7 : n ≤ 7) (hn : Net n cs) (hl : cs.length ≤ 1000) : l.call k 15 [.int z, dNet cs] [o] = .ok (.bl ((rowsN n [[]]).all (goodR cs))) [o] := by
  obtain ⟨k, rfl⟩ : ∃ j, k = j + 1 := ⟨k - 1, by omega⟩
  rw [l.run (d := ⟨3, 2, b15⟩) (σ := [some (.int z), some (dNet cs), none]) rfl rfl rfl]
  have hS : Pu [o] := bagS ho (rfl : Pu [])
  have nb := trim_pu (n := 1) (by simp) hS rfl (number_ok (k := k) (d := .int z) (S := [o]) (by omega) (by simp only [thD, Bool.and_eq_true, decide_eq_true_eq]; omega))
  have ck := trim_pu (n := 1) (by simp) hS rfl (check_ok (k := k) (S := [o]) (many := z) (by omega) hS (by omega) (by omega) (net_th hn (by omega) hl) (by rw [← hz]; exact net_B hn))
  have ab := allb_ok (k := k) (S := [o]) (n := n) (z := z) (by omega) hS hz (by omega)
  simp only [List.length_cons, List.length_nil, Nat.zero_add] at ab
  obtain ⟨x2, e⟩ := does_loop (k := k) (t := some (.int z)) (o := o) (by omega) ho h1 (by omega) hn hl (rowsN n [[]]) none (rows_fact n 0 [[]] (by omega) fun r hr => by
    cases List.mem_singleton.mp hr
    exact ⟨rfl, fun x hx => by cases hx⟩)
  have z10 : ¬ 10 < z := by omega
  have q0 : exec l.G (l.call k) l.sub (match b15 with | .cons a _ => a | _ => .pass) [some (.int z), some (dNet cs), none] [o] = .nx [some (.int z), some (dNet cs), none] [o] := by
    unfold b15
    dsimp only
    simp [nb, numB, glb_tried, z10]
  have q1 : exec l.G (l.call k) l.sub (match b15 with | .cons _ (.cons a _) => a | _ => .pass) [some (.int z), some (dNet cs), none] [o] = .nx [some (.int z), some (dNet cs), none] [o] := by
    unfold b15
    dsimp only
    simp [ck]
  show (execs l.G (l.call k) l.sub b15 _ _).res = _
  rw [show b15 = .cons (match b15 with | .cons a _ => a | _ => .pass) (.cons (match b15 with | .cons _ (.cons a _) => a | _ => .pass) (.cons (match b15 with | .cons _ (.cons _ (.cons a _)) => a | _ => .pass) (.cons (match b15 with | .cons _ (.cons _ (.cons _ (.cons a _))) => a | _ => .pass) .nil))) from rfl, exs_nx q0, rest_nx q1]
  cases hg : (rowsN n [[]]).all (goodR cs) with
  | true =>
    rw [hg, if_pos rfl] at e
    have q2 : exec l.G (l.call k) l.sub (match b15 with | .cons _ (.cons _ (.cons a _)) => a | _ => .pass) [some (.int z), some (dNet cs), none] [o] = .nx [some (.int z), some (dNet cs), x2] [o] := by
      unfold b15
      dsimp only
      simp [ab, itemsOf, e]
    have q3 : exec l.G (l.call k) l.sub (match b15 with | .cons _ (.cons _ (.cons _ (.cons a _))) => a | _ => .pass) [some (.int z), some (dNet cs), x2] [o] = .ret (.bl true) [o] := by
      unfold b15
      dsimp only
      simp
    rw [rest_nx q2, rest_ret q3]
    rfl
  | false =>
    rw [hg, if_neg Bool.false_ne_true] at e
    have q2 : exec l.G (l.call k) l.sub (match b15 with | .cons _ (.cons _ (.cons a _)) => a | _ => .pass) [some (.int z), some (dNet cs), none] [o] = .ret (.bl false) [o] := by
      unfold b15
      dsimp only
      simp [ab, itemsOf, e]
    rw [rest_ret q2]
    rfl
theorem ldoes_ok {n : Nat} {z : Int} {cs : List (Int × Int)} {o : Ob} (hk : 2 ≤ k) (ho : BagOk o) (hz : (n : Int) = z) (h7 : n ≤ 7) (hn : Net n cs) (hl : cs.length ≤ 1000) : l.call k 27 [.int z, dNet cs] [o] = .ok (.bl ((rowsN n [[]]).all (goodR cs))) [o] := by
  obtain ⟨k, rfl⟩ : ∃ j, k = j + 1 := ⟨k - 1, by omega⟩
  rw [l.run (d := ⟨5, 2, b27⟩) (σ := [some (.int z), some (dNet cs), none, none, none]) rfl rfl rfl]
  have hS : Pu [o] := bagS ho (rfl : Pu [])
  have p9 : 2 ^ n ≤ 2 ^ 9 := Nat.pow_le_pow_right (by decide) (by omega)
  obtain ⟨x3, x4, e⟩ := lall_loop (k := k) (S := [o]) (t := some (.int z)) (c := some (dNet cs)) ((rI 0 1 n).map D.int) [[]] none none (by simp [rI_len]; omega) (by rw [List.length_map, rI_len]; simp; omega)
  rw [List.length_map, rI_len] at e
  have rga := rga_n (n := n) (by omega)
  rw [hz] at rga
  generalize (rI 0 1 n).map D.int = Y at rga e
  have rf := rows_fact n 0 [[]] (Nat.zero_add n) fun r hr => by
    cases List.mem_singleton.mp hr
    exact ⟨rfl, fun x hx => by cases hx⟩
  generalize rowsN n [[]] = rs at e rf
  have q0 : exec l.G (l.call k) l.sub (match b27 with | .cons a _ => a | _ => .pass) [some (.int z), some (dNet cs), none, none, none] [o] = .nx [some (.int z), some (dNet cs), some (.lst ([[]].map dInts)), none, none] [o] := by
    unfold b27
    dsimp only
    simp [dInts]
  have q1 : exec l.G (l.call k) l.sub (match b27 with | .cons _ (.cons a _) => a | _ => .pass) [some (.int z), some (dNet cs), some (.lst ([[]].map dInts)), none, none] [o] = .nx [some (.int z), some (dNet cs), some (.lst (rs.map dInts)), x3, x4] [o] := by
    unfold b27
    dsimp only
    have ei : evi l.G (l.call k) (.rng (.cons (.var 0) .nil)) [some (.int z), some (dNet cs), some (.lst ([[]].map dInts)), none, none] [o] = .ok Y [o] := by
      simp [rga]
    rw [ex_for, ei, out_ok, e]
  have q2 : exec l.G (l.call k) l.sub (match b27 with | .cons _ (.cons _ (.cons a _)) => a | _ => .pass) [some (.int z), some (dNet cs), some (.lst (rs.map dInts)), x3, x4] [o] = .ret (.bl (rs.all (goodR cs))) [o] := by
    unfold b27
    dsimp only
    have key : ∀ f : D → Store → Res (Option D), (∀ r ∈ rs, f (dInts r) [o] = .ok (if (!goodR cs r) = true then some (D.int 1) else none) [o]) → turns f (rs.map dInts) [o] = .ok ((rs.filter fun r => !goodR cs r).map fun _ => D.int 1) [o] := fun f hf => turns_filterF dInts (fun _ => D.int 1) (fun r => !goodR cs r) hf
    simp [itemsOf]
    rw [key _ fun r hr => by
      obtain ⟨rl, rb⟩ := rf r hr
      have lo := lord_ok (k := k) (xs := r) (cs := cs) (kd := dInts r) (o := o) (by omega) ho (.inl rfl) (by rw [rl]; exact hn) hl
      have sr := srt_ints r
      have cn : cmpD .ne (dInts (ordF r cs)) (.tup ((sortI r).map D.int)) = some (!goodR cs r) := cmp_intsN
      have i1 : ∀ a b : D, idxD (.tup [a, b]) (.c (.int 1)) [o] = some b := fun a b => rfl
      cases hg : goodR cs r with
      | true =>
        rw [hg] at cn
        simp [cturn, lo, sr, cn, i1]
      | false =>
        rw [hg] at cn
        simp [cturn, lo, sr, cn, i1]]
    have fe := fil_emp (goodR cs) rs
    have le := lst_eq ((rs.filter fun r => !goodR cs r).map fun _ => D.int 1)
    rw [List.isEmpty_map, fe] at le
    simp [le]
  show (execs l.G (l.call k) l.sub b27 _ _).res = _
  rw [show b27 = .cons (match b27 with | .cons a _ => a | _ => .pass) (.cons (match b27 with | .cons _ (.cons a _) => a | _ => .pass) (.cons (match b27 with | .cons _ (.cons _ (.cons a _)) => a | _ => .pass) .nil)) from rfl, exs_nx q0, rest_nx q1, rest_ret q2]
  rfl
end
end Lk53

set_option Elab.async false
set_option maxRecDepth 100000
set_option maxHeartbeats 1000000
namespace Lk53
open Rf
/-! ### values bent at one place -/
theorem some_call {k : Nat} {xs : List D} {o : Ob} {R : Store} (hk : 2 ≤ k) (ho : BagOk o) (hR : Pu R) (hn : 0 < xs.length) (hn2 : xs.length < 1073741824) (hp : ∀ x ∈ xs, puD x = true) : ∃ d o', trim (R.length + 1) (l.call k 22 [.ref 0, .lst xs] (o :: R)) = .ok d (o' :: R) ∧ BagOk o' ∧ d ∈ xs := by
  obtain ⟨d, o', e, ho', hd⟩ := some_ok (k := k) (R := R) hk ho hR hn hn2
  exact ⟨d, o', by rw [e]; exact trim_same (hp d hd) (bagS ho' hR) rfl, ho', hd⟩
mutual
/-- tuples of at most n things, numbers to m -/
def tnD (n : Nat) (m : Int) : D → Bool
  | .c (.int i) => decide (-m ≤ i) && decide (i ≤ m)
  | .c _ => true
  | .tup xs => decide (xs.length ≤ n) && tnDs n m xs
  | .lst xs => puDs xs
  | _ => false
def tnDs (n : Nat) (m : Int) : List D → Bool
  | [] => true
  | x :: xs => tnD n m x && tnDs n m xs
end
theorem tnDs_all {n : Nat} {m : Int} : ∀ {xs : List D}, tnDs n m xs = true ↔ ∀ x ∈ xs, tnD n m x = true
  | [] => by simp [tnDs]
  | x :: xs => by simp [tnDs, tnDs_all (xs := xs)]
theorem tn_tup {n : Nat} {m : Int} {xs : List D} : tnD n m (.tup xs) = true ↔ xs.length ≤ n ∧ ∀ x ∈ xs, tnD n m x = true := by
  rw [tnD, Bool.and_eq_true, decide_eq_true_eq, tnDs_all]
theorem tn_int {n : Nat} {m i : Int} : tnD n m (.int i) = true ↔ -m ≤ i ∧ i ≤ m := by
  simp [tnD]
mutual
theorem tn_th {n : Nat} {m : Int} (hn : n ≤ 2000) (hm : m < 10000000) : ∀ d : D, tnD n m d = true → thD d = true ∧ puD d = true
  | .c k, h => by
    cases k with
    | int i =>
      obtain ⟨h1, h2⟩ := tn_int.mp h
      refine ⟨?_, by simp⟩
      simp only [thD, Bool.and_eq_true, decide_eq_true_eq]
      omega
    | _ => exact ⟨rfl, by simp⟩
  | .tup xs, h => by
    obtain ⟨h1, h2⟩ := Bool.and_eq_true_iff.mp (show (decide (xs.length ≤ n) && tnDs n m xs) = true from by simpa only [tnD] using h)
    obtain ⟨a, b⟩ := tn_ths hn hm xs h2
    refine ⟨?_, by simpa using b⟩
    rw [thD, Bool.and_eq_true]
    exact ⟨decide_eq_true (Nat.le_trans (of_decide_eq_true h1) hn), a⟩
  | .lst xs, h => ⟨rfl, by simpa [tnD] using h⟩
  | .ref _, h => by simp [tnD] at h
  | .fn _, h => by simp [tnD] at h
  | .ty _, h => by simp [tnD] at h
  | .fz _, h => by simp [tnD] at h
  | .edc, h => by simp [tnD] at h
theorem tn_ths {n : Nat} {m : Int} (hn : n ≤ 2000) (hm : m < 10000000) : ∀ xs : List D, tnDs n m xs = true → thDs xs = true ∧ puDs xs = true
  | [], _ => ⟨rfl, rfl⟩
  | x :: xs, h => by
    simp only [tnDs, Bool.and_eq_true] at h
    obtain ⟨a, b⟩ := tn_th hn hm x h.1
    obtain ⟨c, d⟩ := tn_ths hn hm xs h.2
    exact ⟨by simp [thDs, a, c], by simp [b, d]⟩
end
mutual
theorem tn_mono {n n' : Nat} {m m' : Int} (hn : n ≤ n') (hm : m ≤ m') : ∀ d : D, tnD n m d = true → tnD n' m' d = true
  | .c k, h => by
    cases k with
    | int i =>
      obtain ⟨h1, h2⟩ := tn_int.mp h
      exact tn_int.mpr ⟨by omega, by omega⟩
    | _ => rfl
  | .tup xs, h => by
    obtain ⟨h1, h2⟩ := Bool.and_eq_true_iff.mp (show (decide (xs.length ≤ n) && tnDs n m xs) = true from by simpa only [tnD] using h)
    rw [tnD, Bool.and_eq_true]
    exact ⟨decide_eq_true (Nat.le_trans (of_decide_eq_true h1) hn), tn_monos hn hm xs h2⟩
  | .lst xs, h => by simpa [tnD] using h
  | .ref _, h => by simp [tnD] at h
  | .fn _, h => by simp [tnD] at h
  | .ty _, h => by simp [tnD] at h
  | .fz _, h => by simp [tnD] at h
  | .edc, h => by simp [tnD] at h
theorem tn_monos {n n' : Nat} {m m' : Int} (hn : n ≤ n') (hm : m ≤ m') : ∀ xs : List D, tnDs n m xs = true → tnDs n' m' xs = true
  | [], _ => rfl
  | x :: xs, h => by
    simp only [tnDs, Bool.and_eq_true] at h ⊢
    exact ⟨tn_mono hn hm x h.1, tn_monos hn hm xs h.2⟩
end
theorem dep_mem {n : Nat} : ∀ {xs : List D}, depDs xs ≤ n → ∀ x ∈ xs, depD x ≤ n
  | y :: ys, h, x, hx => by
    simp only [depDs] at h
    rcases List.mem_cons.mp hx with rfl | hx
    · omega
    · exact dep_mem (by omega) x hx
theorem pln_mem : ∀ {xs : List D}, plnDs xs = true → ∀ x ∈ xs, plnD x = true
  | y :: ys, h, x, hx => by
    simp only [plnDs, Bool.and_eq_true] at h
    rcases List.mem_cons.mp hx with rfl | hx
    · exact h.1
    · exact pln_mem h.2 x hx
theorem sg_mem : ∀ {xs : List D}, sgDs xs = true → ∀ x ∈ xs, sgD x = true
  | y :: ys, h, x, hx => by
    simp only [sgDs, Bool.and_eq_true] at h
    rcases List.mem_cons.mp hx with rfl | hx
    · exact h.1
    · exact sg_mem h.2 x hx
theorem eqOk_mem {xs : List D} (h : Rf.eqOk (.tup xs) = true) : ∀ x ∈ xs, Rf.eqOk x = true := fun x hx => by
  simp only [Rf.eqOk, plnD, sgD, depD, Bool.and_eq_true, decide_eq_true_eq] at h ⊢
  obtain ⟨⟨h1, h2⟩, h3⟩ := h
  have h3' : depDs xs + 1 ≤ 64 := of_decide_eq_true h3
  have h4 : depDs xs ≤ 63 := by omega
  have := dep_mem h4 x hx
  exact ⟨⟨pln_mem h1 x hx, sg_mem h2 x hx⟩, by omega⟩
theorem ne_empT {xs : List D} (h : Rf.eqOk (.tup xs) = true) : cmpD .ne (.tup xs) (.tup []) = some (!xs.isEmpty) := by
  show (eqD? _ _).map (!·) = _
  unfold eqD?
  rw [h, show Rf.eqOk (.tup []) = true from by decide]
  cases xs <;> simp [eqD, eqDs]
theorem lenI (xs : List D) : bltD .len [.tup xs] = some (.c (.int xs.length)) := rfl
def tailB : Sts := match b23 with
  | .cons _ (.cons _ r) => r
  | _ => .nil
def lastB : Sts := match b23 with
  | .cons _ (.cons _ (.cons _ r)) => r
  | _ => .nil
def innB : Sts := match b23 with
  | .cons _ (.cons (.ife _ a _) _) => a
  | _ => .nil
section
variable {n : Nat} {m : Int}
theorem last_run {k : Nat} {d : D} {o : Ob} {t w : Int} {x4 : Option D} (hm : 9 ≤ m) (hn : n ≤ 1000) (hm2 : m ≤ 1000000) (hk : 3 ≤ k) (ho : BagOk o) (hd : tnD n m d = true) :
    ∃ (d' : D) (o' : Ob), (execs l.G (l.call k) l.sub lastB [some (.ref 0), some d, some (.int t), some (.int w), x4] [o]).res = .ok d' [o'] ∧ BagOk o' ∧ tnD (n + 1) (m + 9) d' = true := by
  obtain ⟨th, pu⟩ := tn_th (by omega) (by omega) d hd
  have it := isi_tup th
  have go : ∀ z : D, tnD (n + 1) (m + 9) z = true → ∃ (d' : D) (o' : Ob), trim 1 (l.call k 22 [.ref 0, .lst [.non, .bl true, .str "", .str "a", .int 7, .int (-1), .tup [], .tup [.int 0], z]] [o]) = .ok d' [o'] ∧ BagOk o' ∧ tnD (n + 1) (m + 9) d' = true := fun z hz => by
    have all : ∀ x ∈ [D.non, .bl true, .str "", .str "a", .int 7, .int (-1), .tup [], .tup [.int 0], z], tnD (n + 1) (m + 9) x = true := fun x hx => by
      simp only [List.mem_cons, List.not_mem_nil, or_false] at hx
      rcases hx with rfl | rfl | rfl | rfl | rfl | rfl | rfl | rfl | rfl
      · rfl
      · rfl
      · rfl
      · rfl
      · exact tn_int.mpr ⟨by omega, by omega⟩
      · exact tn_int.mpr ⟨by omega, by omega⟩
      · exact tn_tup.mpr ⟨by simp, fun x hx => (nomatch hx)⟩
      · exact tn_tup.mpr ⟨by simp, fun x hx => by rw [List.mem_singleton.mp hx]; exact tn_int.mpr ⟨by omega, by omega⟩⟩
      · exact hz
    obtain ⟨d', o', e, ho', hd'⟩ := some_call (k := k) (xs := [D.non, .bl true, .str "", .str "a", .int 7, .int (-1), .tup [], .tup [.int 0], z]) (R := []) (by omega) ho rfl (by simp) (by simp) fun x hx => (tn_th (by omega) (by omega) x (all x hx)).2
    exact ⟨d', o', e, ho', all d' hd'⟩
  unfold lastB b23
  dsimp only
  cases ht : tupB d with
  | false =>
    obtain ⟨d', o', e, ho', hd'⟩ := go (.str "zz") rfl
    refine ⟨d', o', ?_, ho', hd'⟩
    simp [it, ht, e]
  | true =>
    obtain ⟨xs, rfl⟩ := tup_of ht
    obtain ⟨d', o', e, ho', hd'⟩ := go (.lst xs) (by simpa [tnD] using pu)
    refine ⟨d', o', ?_, ho', hd'⟩
    simp [it, ht, e]
theorem tail_run {k : Nat} {d : D} {o : Ob} {t w : Int} {x4 : Option D} (hm : 9 ≤ m) (hn : n ≤ 1000) (hm2 : m ≤ 1000000) (hk : 3 ≤ k) (ho : BagOk o) (hd : tnD n m d = true) :
    ∃ (d' : D) (o' : Ob), (execs l.G (l.call k) l.sub tailB [some (.ref 0), some d, some (.int t), some (.int w), x4] [o]).res = .ok d' [o'] ∧ BagOk o' ∧ tnD (n + 1) (m + 9) d' = true := by
  obtain ⟨th, pu⟩ := tn_th (by omega) (by omega) d hd
  have hS : Pu [o] := bagS ho (rfl : Pu [])
  have li := lint_ok (k := k) (S := [o]) (by omega) th
  have ex : tailB = .cons (match tailB with | .cons a _ => a | _ => .pass) lastB := rfl
  rw [ex, step1]
  by_cases hw : numB d = true ∧ 0 < w
  · obtain ⟨hnum, hw⟩ := hw
    obtain ⟨i, rfl⟩ : ∃ i, d = .int i := by
      unfold numB at hnum
      split at hnum
      · exact ⟨_, rfl⟩
      · cases hnum
    obtain ⟨z, o', e, ho', hz⟩ := some_call (k := k) (xs := [.int 1, .int (-1), .int 2, .int 9]) (R := []) (by omega) ho rfl (by simp) (by simp) fun x hx => by
      simp only [List.mem_cons, List.not_mem_nil, or_false] at hx
      rcases hx with rfl | rfl | rfl | rfl <;> simp
    obtain ⟨i1, i2⟩ := tn_int.mp hd
    simp only [List.length_nil, Nat.zero_add] at e
    obtain ⟨j, rfl, j1, j2⟩ : ∃ j : Int, z = .int j ∧ -1 ≤ j ∧ j ≤ 9 := by
      simp only [List.mem_cons, List.not_mem_nil, or_false] at hz
      rcases hz with rfl | rfl | rfl | rfl
      · exact ⟨1, rfl, by decide, by decide⟩
      · exact ⟨-1, rfl, by decide, by decide⟩
      · exact ⟨2, rfl, by decide, by decide⟩
      · exact ⟨9, rfl, by decide, by decide⟩
    refine ⟨.int (i + j), o', ?_, ho', tn_int.mpr ⟨by omega, by omega⟩⟩
    unfold tailB b23
    dsimp only
    have li' := trim_pu (n := 1) (by simp) hS rfl li
    simp [li', numB, hw, e]
  · obtain ⟨d', o', e, ho', hd'⟩ := last_run (k := k) (t := t) (w := w) (x4 := x4) hm hn hm2 hk ho hd
    refine ⟨d', o', ?_, ho', hd'⟩
    have e0 : exec l.G (l.call k) l.sub (match tailB with | .cons a _ => a | _ => .pass) [some (.ref 0), some d, some (.int t), some (.int w), x4] [o] = .nx [some (.ref 0), some d, some (.int t), some (.int w), x4] [o] := by
      unfold tailB b23
      dsimp only
      have li' := trim_pu (n := 1) (by simp) hS rfl li
      cases hnum : numB d with
      | false => simp [li', hnum]
      | true =>
        have : ¬ 0 < w := fun z => hw ⟨hnum, z⟩
        simp [li', hnum, this]
    rw [e0]
    exact e
theorem cut_len {α : Type} (xs : List α) (a b : Option Int) : (cutD xs a b).length ≤ xs.length := by
  unfold cutD
  rw [List.length_take, List.length_drop]
  omega
theorem cut_mem {α : Type} {xs : List α} {a b : Option Int} {x : α} (h : x ∈ cutD xs a b) : x ∈ xs := by
  unfold cutD at h
  exact List.mem_of_mem_drop (List.mem_of_mem_take h)
theorem cut_to {xs : List D} {i : Int} (h : 0 ≤ i) (h2 : i < xs.length) : (cutD xs none (some i)).length = i.toNat := by
  rw [cutD_to h, List.length_take]
  omega
theorem cut_from {xs : List D} {i : Int} (h : 0 ≤ i) (h2 : i ≤ xs.length) : (cutD xs (some i) none).length = xs.length - i.toNat := by
  rw [cutD_from h, List.length_drop]
theorem cut_one {xs : List D} {i : Int} : (cutD xs (some i) (some (i + 1))).length ≤ 1 ∨ i < 0 := by
  by_cases h : 0 ≤ i
  · left
    unfold cutD
    rw [List.length_take, clD_some h, clD_some (by omega : (0 : Int) ≤ i + 1)]
    omega
  · right
    omega
theorem bent_ok (hn : n ≤ 1000) (hm : 9 ≤ m) (hm2 : m ≤ 1000000) : ∀ (t k : Nat) (d : D) (o : Ob), t + 4 ≤ k → BagOk o → tnD n m d = true → Rf.eqOk d = true →
    ∃ (d' : D) (o' : Ob), l.call k 23 [.ref 0, d, .int t] [o] = .ok d' [o'] ∧ BagOk o' ∧ tnD (n + 1) (m + 9) d' = true := by
  intro t
  induction t with
  | zero =>
    intro k d o hk ho hd he
    obtain ⟨k, rfl⟩ : ∃ j, k = j + 1 := ⟨k - 1, by omega⟩
    rw [l.run (d := ⟨5, 3, b23⟩) (σ := [some (.ref 0), some d, some (.int (0 : Nat)), none, none]) rfl rfl rfl]
    obtain ⟨w, o1, e1, ho1, w0, w1⟩ := take_call (k := k) (m := 5) (R := []) (by omega) ho rfl (by decide) (by decide)
    simp only [List.length_nil, Nat.zero_add] at e1
    obtain ⟨d', o', e, ho', hd'⟩ := tail_run (k := k) (t := (0 : Nat)) (w := w) (x4 := none) hm hn hm2 (by omega) ho1 hd
    refine ⟨d', o', ?_, ho', hd'⟩
    rw [← e]
    show (execs l.G (l.call k) l.sub b23 _ _).res = _
    rw [show b23 = .cons (match b23 with | .cons a _ => a | _ => .pass) (.cons (match b23 with | .cons _ (.cons a _) => a | _ => .pass) tailB) from rfl, step1]
    have s0 : exec l.G (l.call k) l.sub (match b23 with | .cons a _ => a | _ => .pass) [some (.ref 0), some d, some (.int (0 : Nat)), none, none] [o] = .nx [some (.ref 0), some d, some (.int (0 : Nat)), some (.int w), none] [o1] := by
      unfold b23
      dsimp only
      simp [e1]
    have s1 : exec l.G (l.call k) l.sub (match b23 with | .cons _ (.cons a _) => a | _ => .pass) [some (.ref 0), some d, some (.int (0 : Nat)), some (.int w), none] [o1] = .nx [some (.ref 0), some d, some (.int (0 : Nat)), some (.int w), none] [o1] := by
      unfold b23
      dsimp only
      simp
    rw [s0, next_nx, step2, s1]
    rfl
  | succ t ih =>
    intro k d o hk ho hd he
    obtain ⟨k, rfl⟩ : ∃ j, k = j + 1 := ⟨k - 1, by omega⟩
    rw [l.run (d := ⟨5, 3, b23⟩) (σ := [some (.ref 0), some d, some (.int (t + 1 : Nat)), none, none]) rfl rfl rfl]
    obtain ⟨w, o1, e1, ho1, w0, w1⟩ := take_call (k := k) (m := 5) (R := []) (by omega) ho rfl (by decide) (by decide)
    simp only [List.length_nil, Nat.zero_add] at e1
    obtain ⟨th, pu⟩ := tn_th (by omega) (by omega) d hd
    have it := isi_tup th
    show ∃ d' o', (execs l.G (l.call k) l.sub b23 _ _).res = _ ∧ _
    rw [show b23 = .cons (match b23 with | .cons a _ => a | _ => .pass) (.cons (match b23 with | .cons _ (.cons a _) => a | _ => .pass) tailB) from rfl, step1]
    have s0 : exec l.G (l.call k) l.sub (match b23 with | .cons a _ => a | _ => .pass) [some (.ref 0), some d, some (.int (t + 1 : Nat)), none, none] [o] = .nx [some (.ref 0), some d, some (.int (t + 1 : Nat)), some (.int w), none] [o1] := by
      unfold b23
      dsimp only
      simp [e1]
    rw [s0, next_nx, step2]
    have tpos : (0 : Int) < ((t + 1 : Nat) : Int) := by omega
    by_cases hc : tupB d = true ∧ d ≠ .tup [] ∧ 0 < w
    · obtain ⟨ht, hne, hw⟩ := hc
      obtain ⟨xs, rfl⟩ := tup_of ht
      obtain ⟨h1, h2⟩ := tn_tup.mp hd
      have hpos : 0 < xs.length := by
        cases xs with
        | nil => exact absurd rfl hne
        | cons _ _ => simp
      obtain ⟨a, o2, e2, ho2, a0, a1⟩ := take_call (k := k) (m := xs.length) (R := []) (by omega) ho1 rfl (by omega) (by omega)
      simp only [List.length_nil, Nat.zero_add] at e2
      have nb := ne_empT he
      have nonE : xs.isEmpty = false := by
        cases xs with
        | nil => simp at hpos
        | cons _ _ => rfl
      rw [nonE] at nb
      have LN : LINE = 16777216 := rfl
      have sl : ∀ (a b : Option Int) (x y : List D), bnds x = some a → bnds y = some b → slcP (.tup xs) x y [o2] = some (.tup (cutD xs a b)) := fun a b x y h h' => slcP_tup xs x y a b [o2] h h'
      have t1 := cut_to (xs := xs) a0 a1
      have t2 := cut_from (xs := xs) (i := a + 1) (by omega) (by omega)
      have t3 := cut_from (xs := xs) (i := a) (by omega) (by omega)
      have s1 : exec l.G (l.call k) l.sub (match b23 with | .cons _ (.cons a _) => a | _ => .pass) [some (.ref 0), some (.tup xs), some (.int (t + 1 : Nat)), some (.int w), none] [o1] = execs l.G (l.call k) l.sub innB [some (.ref 0), some (.tup xs), some (.int (t + 1 : Nat)), some (.int w), none] [o1] := by
        unfold innB b23
        dsimp only
        simp [tpos, it, ht, nb, hw]
      rw [s1]
      have fin : ∀ (z : D) (o' : Ob), BagOk o' → tnD (n + 1) (m + 9) z = true → execs l.G (l.call k) l.sub innB [some (.ref 0), some (.tup xs), some (.int (t + 1 : Nat)), some (.int w), none] [o1] = .ret z [o'] → ∃ d' o'', ((execs l.G (l.call k) l.sub innB [some (.ref 0), some (.tup xs), some (.int (t + 1 : Nat)), some (.int w), none] [o1]).next fun σ S => rest l.G (l.call k) l.sub tailB σ S).res = .ok d' [o''] ∧ BagOk o'' ∧ tnD (n + 1) (m + 9) d' = true := fun z o' h1 h2 h3 => by
        rw [h3]
        exact ⟨z, o', rfl, h1, h2⟩
      by_cases hw1 : w = 1
      · subst hw1
        have ad : binD .add (.tup (cutD xs none (some a))) (.tup (cutD xs (some (a + 1)) none)) = some (.tup (cutD xs none (some a) ++ cutD xs (some (a + 1)) none)) := bin_addT (by rw [t1, t2]; omega)
        refine fin (.tup (cutD xs none (some a) ++ cutD xs (some (a + 1)) none)) o2 ho2 ?_ ?_
        · refine tn_mono (Nat.le_succ n) (by omega : m ≤ m + 9) _ (tn_tup.mpr ⟨by rw [List.length_append, t1, t2]; omega, fun x hx => ?_⟩)
          rcases List.mem_append.mp hx with hx | hx <;> exact h2 x (cut_mem hx)
        · unfold innB b23
          dsimp only
          rw [step1]
          simp [e2]
          rw [step2]
          simp [ad]
      · by_cases hw2 : w = 2
        · subst hw2
          have c1 := (cut_one (xs := xs) (i := a)).resolve_right (by omega)
          have ad1 : binD .add (.tup (cutD xs none (some a))) (.tup (cutD xs (some a) (some (a + 1)))) = some (.tup (cutD xs none (some a) ++ cutD xs (some a) (some (a + 1)))) := bin_addT (by rw [t1]; omega)
          have ad2 : binD .add (.tup (cutD xs none (some a) ++ cutD xs (some a) (some (a + 1)))) (.tup (cutD xs (some a) none)) = some (.tup ((cutD xs none (some a) ++ cutD xs (some a) (some (a + 1))) ++ cutD xs (some a) none)) := bin_addT (by rw [List.length_append, t1, t3]; omega)
          refine fin (.tup ((cutD xs none (some a) ++ cutD xs (some a) (some (a + 1))) ++ cutD xs (some a) none)) o2 ho2 ?_ ?_
          · refine tn_mono (Nat.le_refl _) (by omega : m ≤ m + 9) _ (tn_tup.mpr ⟨by rw [List.length_append, List.length_append, t1, t3]; omega, fun x hx => ?_⟩)
            rcases List.mem_append.mp hx with hx | hx
            · rcases List.mem_append.mp hx with hx | hx <;> exact tn_mono (Nat.le_succ n) (Int.le_refl m) _ (h2 x (cut_mem hx))
            · exact tn_mono (Nat.le_succ n) (Int.le_refl m) _ (h2 x (cut_mem hx))
          · unfold innB b23
            dsimp only
            rw [step1]
            simp [e2]
            rw [step2]
            simp
            rw [step2]
            simp only [List.append_assoc] at ad2
            simp [ad1, ad2]
        · have hat : atD xs a = xs[a.toNat]? := atD_nat a0 a1
          have hlt : a.toNat < xs.length := by omega
          rw [List.getElem?_eq_getElem hlt] at hat
          obtain ⟨z, o3, e3, ho3, hz⟩ := ih k xs[a.toNat] o2 (by omega) ho2 (h2 _ (List.getElem_mem hlt)) (eqOk_mem he _ (List.getElem_mem hlt))
          have e3' := trim_pu (n := 1) (tn_th (by omega) (by omega) z hz).2 (bagS ho3 (rfl : Pu [])) rfl (show l.call k 23 [.ref 0, xs[a.toNat], .int t] [o2] = .ok z [o3] from e3)
          have ad1 : binD .add (.tup (cutD xs none (some a))) (.tup [z]) = some (.tup (cutD xs none (some a) ++ [z])) := bin_addT (by rw [t1]; simp; omega)
          have ad2 : binD .add (.tup (cutD xs none (some a) ++ [z])) (.tup (cutD xs (some (a + 1)) none)) = some (.tup ((cutD xs none (some a) ++ [z]) ++ cutD xs (some (a + 1)) none)) := bin_addT (by rw [List.length_append, t1, t2]; simp; omega)
          refine fin (.tup ((cutD xs none (some a) ++ [z]) ++ cutD xs (some (a + 1)) none)) o3 ho3 ?_ ?_
          · refine tn_tup.mpr ⟨by rw [List.length_append, List.length_append, t1, t2]; simp; omega, fun x hx => ?_⟩
            rcases List.mem_append.mp hx with hx | hx
            · rcases List.mem_append.mp hx with hx | hx
              · exact tn_mono (Nat.le_succ n) (by omega : m ≤ m + 9) _ (h2 x (cut_mem hx))
              · rw [List.mem_singleton.mp hx]
                exact hz
            · exact tn_mono (Nat.le_succ n) (by omega : m ≤ m + 9) _ (h2 x (cut_mem hx))
          · unfold innB b23
            dsimp only
            rw [step1]
            simp [e2]
            rw [step2]
            simp [hw1]
            rw [step2]
            simp [hw2]
            rw [step2]
            simp only [List.append_assoc] at ad2
            simp [hat, e3', ad1, ad2]
    · have s1 : exec l.G (l.call k) l.sub (match b23 with | .cons _ (.cons a _) => a | _ => .pass) [some (.ref 0), some d, some (.int (t + 1 : Nat)), some (.int w), none] [o1] = .nx [some (.ref 0), some d, some (.int (t + 1 : Nat)), some (.int w), none] [o1] := by
        unfold b23
        dsimp only
        cases ht : tupB d with
        | false => simp [tpos, it, ht]
        | true =>
          obtain ⟨xs, rfl⟩ := tup_of ht
          have nb := ne_empT he
          cases hx : xs.isEmpty with
          | true => 
            rw [hx] at nb
            simp [tpos, it, ht, nb]
          | false =>
            rw [hx] at nb
            have : ¬ 0 < w := fun z => hc ⟨ht, (fun e => by cases e; cases hx), z⟩
            simp [tpos, it, ht, nb, this]
      obtain ⟨d', o', e, ho', hd'⟩ := tail_run (k := k) (t := (t + 1 : Nat)) (w := w) (x4 := none) hm hn hm2 (by omega) ho1 hd
      refine ⟨d', o', ?_, ho', hd'⟩
      rw [← e, s1]
      rfl
end
end Lk53

set_option Elab.async false
set_option maxRecDepth 100000
set_option maxHeartbeats 1000000
namespace Lk53
open Rf
/-! ### what is shown -/
theorem bagN {o : Ob} (ho : BagOk o) : Pu [o] := bagS ho (rfl : Pu [])
theorem bag_made {k : Nat} {ns : List Int} (hk : 1 ≤ k) : ∃ o, l.call k 18 [.fz (ns.map D.int)] [] = .ok (.ref 0) [o] ∧ BagOk o := by
  obtain ⟨k, rfl⟩ : ∃ j, k = j + 1 := ⟨k - 1, by omega⟩
  rw [l.call_eq (d := ⟨2, 1, b18⟩) rfl rfl]
  rw [show Rf.start 2 [.fz (ns.map D.int)] = [some (.fz (ns.map D.int)), none] from rfl]
  have cut : cutD (ns.map D.int) none (some 63) = (ns.take 63).map D.int := by rw [cutD_to (by decide), List.map_take]; rfl
  have sl : ∀ S, slcP (.fz (ns.map D.int)) [] [.c (.int 63)] S = some (.lst ((ns.take 63).map D.int)) := fun S => by rw [slcP_fz _ _ _ none (some 63) S rfl rfl, cut]
  have key : ∀ f : D → Store → Res (Option D), (∀ x ∈ ns.take 63, f (.int x) [] = .ok (some (.int (if x < 0 then -x else x))) []) → turns f ((ns.take 63).map D.int) [] = .ok ((ns.take 63).map fun x => .int (if x < 0 then -x else x)) [] := fun f h => turns_mapF _ _ h
  refine ⟨bagO 0 1234567891 0 ((ns.take 63).map fun x => if x < 0 then -x else x), ?_, 0, 1234567891, 0, _, rfl, Int.le_refl 0, by decide, Int.le_refl 0, fun x hx => ?_, by simp; omega⟩
  · simp only [b18, execs, exec, ev, evs, evi]
    simp [-List.map_take, sl, itemsOf]
    rw [key _ fun x hx => by simp [asg, clr, ev, evs, evt]]
    simp [-List.map_take, bagO]
  · obtain ⟨y, _, rfl⟩ := List.mem_map.mp hx
    split <;> omega
theorem alike_ok {k : Nat} {d : D} {S : Store} (hk : 1 ≤ k) (h : Shows d) (hd : ∀ S, see S d = d) : l.call k 20 [d, d] S = .ok (.bl true) S := by
  obtain ⟨k, rfl⟩ : ∃ j, k = j + 1 := ⟨k - 1, by omega⟩
  rw [l.run (d := ⟨2, 2, b20⟩) (σ := [some d, some d]) rfl rfl rfl]
  dsimp only
  unfold b20
  simp [hd, alike_repr h, cmp_strSelf, cmp_self h]
theorem alike_call {k : Nat} {d : D} {o : Ob} (hk : 1 ≤ k) (ho : BagOk o) (h : Shows d) (hd : ∀ S, see S d = d) : trim 1 (l.call k 20 [d, d] [o]) = .ok (.bl true) [o] := by
  rw [alike_ok hk h hd]
  exact trim_same (by simp) (bagN ho) rfl
theorem small_str {t : Nat} {x : PySem.Str} (h : (sgD (.c (.str x)) && (okD (.c (.str x)) && decide (wD (.c (.str x)) ≤ 100))) = true) : Small t 100 (.c (.str x)) := by
  simp only [Bool.and_eq_true, decide_eq_true_eq] at h
  exact ⟨rfl, h.1, h.2.1, Nat.zero_le _, h.2.2⟩
theorem _root_.Rf.Smalls.mono2 {t w v : Nat} {ds : List D} (h : Smalls t w ds) (hv : w ≤ v) : Smalls t v ds := ⟨h.p, h.g, h.o, h.t, Nat.le_trans h.w hv⟩
theorem _root_.Rf.Smalls.mono3 {t w u v : Nat} {ds : List D} (h : Smalls t w ds) (ht : t ≤ u) (hv : w ≤ v) : Smalls u v ds := ⟨h.p, h.g, h.o, Nat.le_trans h.t ht, Nat.le_trans h.w hv⟩
theorem small_num {t : Nat} {i : Int} (h : -1 < i) (h2 : i < 1000000) : Small t 67 (.int i) := Small.int (by omega) (by omega)

/-! ### a turn's things -/
abbrev LE (z : Int) (C : D) (x0 x2 x5 x6 x7 x8 x9 xa xb xc xd xe xf xg xh : Option D) : Env := [x0, some (.ref 0), x2, some (.int z), some C, x5, x6, x7, x8, x9, xa, xb, xc, xd, xe, xf, xg, xh]
theorem bl_shows (b : Bool) : Shows (.bl b) := (Small.bl (t := 0) (w := 5) (b := b) (Nat.le_refl _)).shows rfl (by decide) (by decide)
def g0 : St := match b30l0 with
  | .cons a _ => a
  | _ => .pass
def g1 : St := match b30l0 with
  | .cons _ (.cons a _) => a
  | _ => .pass
section
variable {k : Nat} {z : Int} {C : D} {o : Ob} {x0 x2 x5 x6 x7 x8 x9 xa xb xc xd xe xf xg xh : Option D}
theorem thing_exec {d : D} (hk : 6 ≤ k) (ho : BagOk o) (hz : 1 ≤ z) (hz2 : z ≤ 16) (hd : thD d = true) :
    ∃ x8', execs l.G (l.call k) l.sub b30l0 (LE z C x0 x2 (some d) x6 x7 x8 x9 xa xb xc xd xe xf xg xh) [o] = .nx (LE z C x0 x2 (some d) x6 x7 x8' x9 xa xb xc xd xe xf xg xh) [o] := by
  have hS := bagN ho
  have it := isi_tup hd
  have isn := trim_pu (n := 1) (by simp) hS rfl (isnet_ok (k := k) (S := [o]) (many := z) (by omega) hS hz hz2 hd)
  have al := alike_call (k := k) (d := .bl (allB (cpB z) d)) (by omega) ho (bl_shows _) (fun _ => rfl)
  refine ⟨some (.bl (allB (cpB z) d)), ?_⟩
  have s0 : exec l.G (l.call k) l.sub g0 (LE z C x0 x2 (some d) x6 x7 x8 x9 xa xb xc xd xe xf xg xh) [o] = .nx (LE z C x0 x2 (some d) x6 x7 (some (.bl (allB (cpB z) d))) x9 xa xb xc xd xe xf xg xh) [o] := by
    unfold g0 b30l0
    dsimp only
    cases ht : tupB d with
    | false =>
      have e : allB (cpB z) d = false := by cases d <;> first | rfl | (simp [tupB] at ht)
      simp [it, ht, e]
    | true =>
      obtain ⟨xs, rfl⟩ := tup_of ht
      have m := (thD_tup.mp hd).2
      have key : ∀ f : D → Store → Res (Option D), (∀ x ∈ xs, f x [o] = .ok (if (!cpB z x) = true then some (D.int 1) else none) [o]) → turns f xs [o] = .ok ((xs.filter fun x => !cpB z x).map fun _ => D.int 1) [o] := fun f hf => turns_filter (p := fun x => !cpB z x) (g := fun _ => D.int 1) hf
      simp [it, ht, itemsOf]
      rw [key _ fun x hx => by
        have lc := trim_pu (n := 1) (by simp) hS rfl (lcouple_ok (k := k) (many := z) (S := [o]) (by omega) hS (m x hx))
        cases hb : cpB z x <;> simp [cturn, lc, hb]]
      have fe := fil_emp (cpB z) xs
      have le := lst_eq ((xs.filter fun x => !cpB z x).map fun _ => D.int 1)
      rw [List.isEmpty_map, fe] at le
      simp [le, allB]
  have s1 : exec l.G (l.call k) l.sub g1 (LE z C x0 x2 (some d) x6 x7 (some (.bl (allB (cpB z) d))) x9 xa xb xc xd xe xf xg xh) [o] = .nx (LE z C x0 x2 (some d) x6 x7 (some (.bl (allB (cpB z) d))) x9 xa xb xc xd xe xf xg xh) [o] := by
    unfold g1 b30l0
    dsimp only
    simp [isn, al]
  rw [show b30l0 = .cons g0 (.cons g1 .nil) from rfl, exs_nx s0, rest_nx s1, rest_nil]
theorem things_loop {ds : List D} (hk : 6 ≤ k) (ho : BagOk o) (hz : 1 ≤ z) (hz2 : z ≤ 16) (h : ∀ d ∈ ds, thD d = true) :
    ∃ x5' x8', forL (.nm 5) (execs l.G (l.call k) l.sub b30l0) ds (LE z C x0 x2 x5 x6 x7 x8 x9 xa xb xc xd xe xf xg xh) [o] = .nx (LE z C x0 x2 x5' x6 x7 x8' x9 xa xb xc xd xe xf xg xh) [o] := by
  obtain ⟨σ', S', e, y5, y8, rfl, rfl⟩ := forL_keep (tg := .nm 5) (b := execs l.G (l.call k) l.sub b30l0) (fun σ S => ∃ y5 y8, σ = LE z C x0 x2 y5 x6 x7 y8 x9 xa xb xc xd xe xf xg xh ∧ S = [o]) (xs := ds) (σ := LE z C x0 x2 x5 x6 x7 x8 x9 xa xb xc xd xe xf xg xh) (S := [o]) ⟨x5, x8, rfl, rfl⟩ fun d hd σ S ⟨y5, y8, e1, e2⟩ => by
    subst e1
    subst e2
    obtain ⟨y8', e⟩ := thing_exec (k := k) (z := z) (C := C) (x0 := x0) (x2 := x2) (x6 := x6) (x7 := x7) (x8 := y8) (x9 := x9) (xa := xa) (xb := xb) (xc := xc) (xd := xd) (xe := xe) (xf := xf) (xg := xg) (xh := xh) hk ho hz hz2 (h d hd)
    exact ⟨_, rfl, _, _, .inl e, some d, y8', rfl, rfl⟩
  exact ⟨y5, y8, e⟩
end
/-! ### the couples shown -/
theorem part_small {c : Int × Int} (h : (-1000 ≤ c.1 ∧ c.1 ≤ 1000) ∧ -1000 ≤ c.2 ∧ c.2 ≤ 1000) : Small 1 141 (dPart c) :=
  Small.tup (t := 0) (w := 138) (Smalls.cons (w := 67) (v := 69) (Small.int (by omega) (by omega)) (Smalls.cons (w := 67) (v := 0) (Small.int (by omega) (by omega)) .nil))
theorem net_shows {n : Nat} {cs : List (Int × Int)} (hn : Net n cs) (h16 : n ≤ 16) (hl : cs.length ≤ 1000) : Shows (dNet cs) := by
  have s : Smalls 1 (cs.length * 143) (cs.map dPart) := Smalls.map (t := 1) (w := 141) dPart fun c hc => by
    obtain ⟨a, b, d⟩ := hn c hc
    exact part_small ⟨⟨by omega, by omega⟩, by omega, by omega⟩
  exact (Small.tup s).shows rfl (by decide) (by unfold LINE; omega)
theorem ints_small {xs : List Int} (h : ∀ x ∈ xs, -1000 ≤ x ∧ x ≤ 1000) (hl : xs.length ≤ 1000) : Small 1 100000 (dInts xs) :=
  (Small.ints fun x hx => by have := h x hx; omega).mono (Nat.le_refl _) (by omega)
theorem pair_shows {a b : List Int} (ha : ∀ x ∈ a, -1000 ≤ x ∧ x ≤ 1000) (hb : ∀ x ∈ b, -1000 ≤ x ∧ x ≤ 1000) (la : a.length ≤ 1000) (lb : b.length ≤ 1000) : Shows (.lst [dInts a, dInts b]) :=
  (Small.lst (t := 1) (w := 200004) (Smalls.cons (w := 100000) (v := 100002) (ints_small ha la) (Smalls.cons (w := 100000) (v := 0) (ints_small hb lb) .nil))).shows rfl (by decide) (by decide)
theorem fat_bound {xs : List Int} (h : ∀ x ∈ xs, -1000 ≤ x ∧ x ≤ 1000) (w : Int) : -1000 ≤ fat xs w ∧ fat xs w ≤ 1000 := by
  unfold fat
  rw [List.getD_eq_getElem?_getD]
  cases hg : xs[w.toNat]? with
  | none => simp
  | some v => exact h v (List.mem_of_getElem? hg)
theorem swap_bound {xs : List Int} (h : ∀ x ∈ xs, -1000 ≤ x ∧ x ≤ 1000) (c : Int × Int) : ∀ x ∈ swapL xs c, -1000 ≤ x ∧ x ≤ 1000 := fun x hx => by
  rcases List.mem_or_eq_of_mem_set hx with hx | rfl
  · rcases List.mem_or_eq_of_mem_set hx with hx | rfl
    · exact h x hx
    · exact fat_bound h _
  · exact fat_bound h _
theorem led_bound : ∀ (cs : List (Int × Int)) (bs xs : List Int), (∀ x ∈ xs, -1000 ≤ x ∧ x ≤ 1000) → ∀ x ∈ ledL xs cs bs, -1000 ≤ x ∧ x ≤ 1000
  | [], bs, xs, h => by cases bs <;> exact h
  | c :: cs, [], xs, h => h
  | c :: cs, b :: bs, xs, h => by
    unfold ledL
    refine led_bound cs bs _ ?_
    split
    · exact swap_bound h c
    · exact h
theorem to_shows {os : List Int} {n : Nat} {cs : List (Int × Int)} (hl : cs.length ≤ 1000) : Shows (toD os n cs) := by
  unfold toD
  split
  · exact (ints_small (fun x hx => by have := ordB_bit cs _ x hx; omega) (by rw [ordB_len]; exact hl)).shows rfl (by decide) (by decide)
  · exact (Small.non (t := 0) (w := 5) (Nat.le_refl _)).shows rfl (by decide) (by decide)
theorem net_tn {n : Nat} {cs : List (Int × Int)} (hn : Net n cs) (h16 : n ≤ 16) (hl : cs.length ≤ 64) : tnD 64 16 (dNet cs) = true := by
  refine tn_tup.mpr ⟨by rw [List.length_map]; exact hl, fun x hx => ?_⟩
  obtain ⟨c, hc, rfl⟩ := List.mem_map.mp hx
  obtain ⟨a, b, d⟩ := hn c hc
  refine tn_tup.mpr ⟨by simp, fun y hy => ?_⟩
  simp only [List.mem_cons, List.not_mem_nil, or_false] at hy
  rcases hy with rfl | rfl <;> exact tn_int.mpr ⟨by omega, by omega⟩
theorem net_eqOk (cs : List (Int × Int)) : Rf.eqOk (dNet cs) = true := by
  obtain ⟨a, b⟩ := pln_map dPart (xs := cs) fun q hq => by simp [dPart, plnD, plnDs, sgD, sgDs]
  have h1 := dep_map dPart (n := 1) (xs := cs) fun q hq => by simp [dPart, depD, depDs]
  show (plnDs (cs.map dPart) && sgDs (cs.map dPart) && decide (depDs (cs.map dPart) + 1 ≤ 64)) = true
  rw [a, b, decide_eq_true (by omega)]
  rfl
end Lk53

set_option Elab.async false
set_option maxRecDepth 100000
set_option maxHeartbeats 1000000
namespace Lk53
open Rf
/-! ### what is asked amiss -/
section
variable {k : Nat} {S : Store}
theorem tx0 (hS : Pu S) : trim S.length (.ex ⟨0, []⟩ S) = .ex ⟨0, []⟩ S := by rw [trim_ex (by simp) hS, List.take_length]
theorem network_bad {d : D} (hk : 3 ≤ k) (hS : Pu S) (hd : thD d = true) (h : numB d = false ∨ ∃ i, d = .int i ∧ i < 1) : l.call k 6 [d] S = .ex ⟨0, []⟩ S := by
  obtain ⟨k, rfl⟩ : ∃ j, k = j + 1 := ⟨k - 1, by omega⟩
  rw [l.run (d := ⟨4, 1, b6⟩) (σ := [some d, none, none, none]) rfl rfl rfl]
  have pl := places_bad (k := k) (S := S) (by omega) hS hd h
  have tx := tx0 hS
  have q0 : exec l.G (l.call k) l.sub (match b6 with | .cons a _ => a | _ => .pass) [some d, none, none, none] S = .ex ⟨0, []⟩ [some d, none, none, none] S := by
    unfold b6
    dsimp only
    simp [pl, tx]
  show (execs l.G (l.call k) l.sub b6 _ _).res = _
  rw [show b6 = .cons (match b6 with | .cons a _ => a | _ => .pass) (match b6 with | .cons _ r => r | _ => .nil) from rfl, step1, q0]
  rfl
theorem led_none {cs : List (Int × Int)} {xs : List Int} (hk : 7 ≤ k) (hS : Pu S) (h1 : 1 ≤ xs.length) (h16 : xs.length ≤ 16) (hn : Net xs.length cs) (hl : cs.length ≤ 1000) : l.call k 11 [dInts xs, dNet cs, .non] S = .ex ⟨0, []⟩ S := by
  obtain ⟨k, rfl⟩ : ∃ j, k = j + 1 := ⟨k - 1, by omega⟩
  rw [l.run (d := ⟨5, 3, b11⟩) (σ := [some (dInts xs), some (dNet cs), some .non, none, none]) rfl rfl rfl]
  have th := net_th hn (by omega) hl
  have ck := trim_pu (n := S.length) (by simp) hS rfl (check_ok (k := k) (S := S) (many := xs.length) (by omega) hS (by omega) (by omega) th (net_B hn))
  have sz := trim_pu (n := S.length) (by simp) hS rfl (sized_ok (k := k) (d := .non) (n := cs.length) (S := S) (by omega) rfl)
  have szb : sizedB .non cs.length = false := rfl
  have q0 : exec l.G (l.call k) l.sub (match b11 with | .cons a _ => a | _ => .pass) [some (dInts xs), some (dNet cs), some .non, none, none] S = .nx [some (dInts xs), some (dNet cs), some .non, none, none] S := by
    unfold b11
    dsimp only
    simp [isiD, typeOfD, dInts]
  have q2 : exec l.G (l.call k) l.sub (match b11 with | .cons _ (.cons a _) => a | _ => .pass) [some (dInts xs), some (dNet cs), some .non, none, none] S = .nx [some (dInts xs), some (dNet cs), some .non, none, none] S := by
    unfold b11
    dsimp only
    have ln : bltD .len [dInts xs] = some (.c (.int xs.length)) := by show some (D.int ((xs.map D.int).length : Int)) = _; rw [List.length_map]
    simp [ln, ck]
  have q1 : exec l.G (l.call k) l.sub (match b11 with | .cons _ (.cons _ (.cons a _)) => a | _ => .pass) [some (dInts xs), some (dNet cs), some .non, none, none] S = .ex ⟨0, []⟩ [some (dInts xs), some (dNet cs), some .non, none, none] S := by
    unfold b11
    dsimp only
    simp [sz, szb]
  show (execs l.G (l.call k) l.sub b11 _ _).res = _
  rw [show b11 = .cons (match b11 with | .cons a _ => a | _ => .pass) (.cons (match b11 with | .cons _ (.cons a _) => a | _ => .pass) (.cons (match b11 with | .cons _ (.cons _ (.cons a _)) => a | _ => .pass) (match b11 with | .cons _ (.cons _ (.cons _ r)) => r | _ => .nil))) from rfl, exs_nx q0, rest_nx q2, step2, q1]
  rfl
theorem led_empty (hk : 7 ≤ k) (hS : Pu S) : l.call k 11 [.tup [], .tup [], .tup []] S = .ex ⟨0, []⟩ S := by
  obtain ⟨k, rfl⟩ : ∃ j, k = j + 1 := ⟨k - 1, by omega⟩
  rw [l.run (d := ⟨5, 3, b11⟩) (σ := [some (.tup []), some (.tup []), some (.tup []), none, none]) rfl rfl rfl]
  have ck : trim S.length (l.call k 9 [.int 0, .tup []] S) = .ex ⟨0, []⟩ S := by rw [check_bad (by omega) hS]; exact tx0 hS
  have q0 : exec l.G (l.call k) l.sub (match b11 with | .cons a _ => a | _ => .pass) [some (.tup []), some (.tup []), some (.tup []), none, none] S = .nx [some (.tup []), some (.tup []), some (.tup []), none, none] S := by
    unfold b11
    dsimp only
    simp [isiD, typeOfD]
  have q1 : exec l.G (l.call k) l.sub (match b11 with | .cons _ (.cons a _) => a | _ => .pass) [some (.tup []), some (.tup []), some (.tup []), none, none] S = .ex ⟨0, []⟩ [some (.tup []), some (.tup []), some (.tup []), none, none] S := by
    unfold b11
    dsimp only
    have ln : bltD .len [.tup []] = some (.c (.int 0)) := rfl
    simp [ln, ck]
  show (execs l.G (l.call k) l.sub b11 _ _).res = _
  rw [show b11 = .cons (match b11 with | .cons a _ => a | _ => .pass) (.cons (match b11 with | .cons _ (.cons a _) => a | _ => .pass) (match b11 with | .cons _ (.cons _ r) => r | _ => .nil)) from rfl, exs_nx q0, step2, q1]
  rfl
theorem bfor_empty (hk : 7 ≤ k) (hS : Pu S) : l.call k 12 [.tup [], .tup []] S = .ex ⟨0, []⟩ S := by
  obtain ⟨k, rfl⟩ : ∃ j, k = j + 1 := ⟨k - 1, by omega⟩
  rw [l.run (d := ⟨4, 2, b12⟩) (σ := [some (.tup []), some (.tup []), none, none]) rfl rfl rfl]
  have ck : trim S.length (l.call k 9 [.int 0, .tup []] S) = .ex ⟨0, []⟩ S := by rw [check_bad (by omega) hS]; exact tx0 hS
  have nu : trim S.length (l.call k 3 [.tup [], .fn 0] S) = .ok (.bl true) S := trim_pu (n := S.length) (by simp) hS rfl (nums_ok (k := k) (S := S) (xs := []) (by omega) hS (by simp) (fun x hx => by cases hx))
  have q0 : exec l.G (l.call k) l.sub (match b12 with | .cons a _ => a | _ => .pass) [some (.tup []), some (.tup []), none, none] S = .nx [some (.tup []), some (.tup []), none, none] S := by
    unfold b12
    dsimp only
    simp [nu]
  have q1 : exec l.G (l.call k) l.sub (match b12 with | .cons _ (.cons a _) => a | _ => .pass) [some (.tup []), some (.tup []), none, none] S = .ex ⟨0, []⟩ [some (.tup []), some (.tup []), none, none] S := by
    unfold b12
    dsimp only
    have ln : bltD .len [.tup []] = some (.c (.int 0)) := rfl
    simp [ln, ck]
  show (execs l.G (l.call k) l.sub b12 _ _).res = _
  rw [show b12 = .cons (match b12 with | .cons a _ => a | _ => .pass) (.cons (match b12 with | .cons _ (.cons a _) => a | _ => .pass) (match b12 with | .cons _ (.cons _ r) => r | _ => .nil)) from rfl, exs_nx q0, step2, q1]
  rfl
theorem to_bad {os : List Int} {o : Ob} (hk : 8 ≤ k) (ho : BagOk o) (h2 : 2 ≤ os.length) (hl : os.length ≤ 100) (h0 : ∀ x ∈ os, x = 0) : l.call k 13 [dInts os, .tup []] [o] = .ex ⟨0, []⟩ [o] := by
  obtain ⟨k, rfl⟩ : ∃ j, k = j + 1 := ⟨k - 1, by omega⟩
  rw [l.run (d := ⟨5, 2, b13⟩) (σ := [some (.tup (os.map D.int)), some (.tup []), none, none, none]) rfl rfl rfl]
  have hS : Pu [o] := bagS ho (rfl : Pu [])
  have th : thD (dInts os) = true := ints_th (by omega) fun x hx => by rw [h0 x hx]; decide
  have tu := tupOf_all (k := k) (f := 1) (q := idxB) (S := [o]) (by omega) hS th fun x hx => index_ok (by omega) hS hx
  have ai : allB idxB (dInts os) = true := by
    show (os.map D.int).all idxB = true
    rw [List.all_map, List.all_eq_true]
    exact fun x hx => by rw [h0 x hx]; rfl
  rw [ai] at tu
  have tu' : trim 1 (l.call k 3 [.tup (os.map D.int), .fn 1] [o]) = .ok (.bl true) [o] := trim_pu (n := 1) (by simp) hS rfl tu
  have srt : bltD .sorted [.tup (os.map D.int)] = some (.lst ((sortI os).map D.int)) := srt_ints os
  have rgl := rgl_n (n := os.length) (by omega)
  have ne := cmp_intsL (a := sortI os) (b := rI 0 1 os.length)
  have df : decide (sortI os = rI 0 1 os.length) = false := decide_eq_false fun e => by
    have m1 : (1 : Int) ∈ rI 0 1 os.length := by
      obtain ⟨j, hj⟩ : ∃ j, os.length = j + 2 := ⟨os.length - 2, by omega⟩
      rw [hj]
      show (1 : Int) ∈ 0 :: (0 + 1) :: rI (0 + 1 + 1) 1 j
      simp
    rw [← e] at m1
    have := h0 1 ((sortI_perm os).mem_iff.mp m1)
    omega
  rw [df] at ne
  obtain ⟨z, hz⟩ : ∃ z : Int, (os.length : Int) = z := ⟨_, rfl⟩
  rw [hz] at rgl
  generalize (rI 0 1 os.length).map D.int = Y at rgl ne
  have q0 : exec l.G (l.call k) l.sub (match b13 with | .cons a _ => a | _ => .pass) [some (.tup (os.map D.int)), some (.tup []), none, none, none] [o] = .ex ⟨0, []⟩ [some (.tup (os.map D.int)), some (.tup []), none, none, none] [o] := by
    unfold b13
    dsimp only
    simp [tu', srt, hz, rgl, ne]
  show (execs l.G (l.call k) l.sub b13 _ _).res = _
  rw [show b13 = .cons (match b13 with | .cons a _ => a | _ => .pass) (match b13 with | .cons _ r => r | _ => .nil) from rfl, step1, q0]
  rfl
theorem times_ok (v : Int) {n : Nat} {z : Int} (hz : (n : Int) = z) (h1 : 1 ≤ n) (h16 : n ≤ 16) : ∃ xs : List Int, binD .mul (.tup [.c (.int v)]) (.c (.int z)) = some (dInts xs) ∧ xs.length = n ∧ ∀ x ∈ xs, x = v := by
  by_cases h : z = 1
  · refine ⟨[v], ?_, by simp; omega, fun x hx => List.mem_singleton.mp hx⟩
    show (if z = 1 then _ else _) = _
    rw [if_pos h]
    rfl
  · refine ⟨List.replicate n v, ?_, by simp, fun x hx => (List.mem_replicate.mp hx).2⟩
    show (if z = 1 then _ else if _ ∧ z ≤ 0 ∧ -1000 ≤ z then _ else if _ ∧ 2 ≤ z ∧ _ then _ else _) = _
    rw [if_neg h, if_neg (by omega), if_pos ⟨by simp, by omega, by simp; omega⟩]
    have : z.toNat = n := by omega
    rw [this, List.flatten_replicate_singleton]
    show _ = some (D.tup ((List.replicate n v).map D.int))
    rw [List.map_replicate]
theorem ask_ok {n : Nat} {z : Int} {cs : List (Int × Int)} {o : Ob} (hk : 10 ≤ k) (ho : BagOk o) (hz : (n : Int) = z) (h1 : 1 ≤ n) (h16 : n ≤ 16) (hn : Net n cs) (hl : cs.length ≤ 1000) : ∀ w : Int, 0 ≤ w → w < 8 → trim 1 (l.call k 29 [.int w, .int z, dNet cs] [o]) = .ex ⟨0, []⟩ [o] := by
  obtain ⟨k, rfl⟩ : ∃ j, k = j + 1 := ⟨k - 1, by omega⟩
  intro w w0 w8
  have hS : Pu [o] := bagS ho (rfl : Pu [])
  rw [l.run (d := ⟨3, 3, b29⟩) (σ := [some (.int w), some (.int z), some (dNet cs)]) rfl rfl rfl]
  have tx : trim 1 (.ex ⟨0, []⟩ [o]) = .ex ⟨0, []⟩ [o] := tx0 (S := [o]) hS
  have n0 := network_bad (k := k) (S := [o]) (d := .int 0) (by omega) hS (by decide) (.inr ⟨0, rfl, by decide⟩)
  have n1 := network_bad (k := k) (S := [o]) (d := .bl true) (by omega) hS (by decide) (.inl rfl)
  have i0 := isnet_bad (k := k) (S := [o]) (m := .int 0) (d := .tup []) (by omega) hS (by decide) (.inr ⟨0, rfl, by decide⟩)
  have i1 := isnet_bad (k := k) (S := [o]) (m := .non) (d := .tup []) (by omega) hS (by decide) (.inl rfl)
  have l6 := led_empty (k := k) (S := [o]) (by omega) hS
  have l7 := bfor_empty (k := k) (S := [o]) (by omega) hS
  obtain ⟨os, eo, ol, ov⟩ := times_ok 1 hz h1 h16
  obtain ⟨zs, ez, zl, zv⟩ := times_ok 0 hz h1 h16
  have l2 := led_none (k := k) (S := [o]) (xs := os) (cs := cs) (by omega) hS (by omega) (by omega) (by rw [ol]; exact hn) hl
  have l3 := to_bad (k := k) (o := o) (os := zs ++ [0]) (by omega) ho (by simp; omega) (by simp; omega) (fun x hx => by
    rcases List.mem_append.mp hx with hx | hx
    · exact zv x hx
    · exact List.mem_singleton.mp hx)
  have ad := row_add 0 (r := zs) (by omega)
  have z : w = 0 ∨ w = 1 ∨ w = 2 ∨ w = 3 ∨ w = 4 ∨ w = 5 ∨ w = 6 ∨ w = 7 := by omega
  dsimp only
  unfold b29
  rcases z with rfl | rfl | rfl | rfl | rfl | rfl | rfl | rfl
  · rw [step1]
    simp [n0, tx]
  · rw [step1]
    simp [n1, tx]
  · rw [step1]
    simp
    rw [step2]
    simp [eo, l2, tx]
  · rw [step1]
    simp
    rw [step2]
    simp [ez, ad, l3, tx]
  · rw [step1]
    simp
    rw [step2]
    simp
    rw [step2]
    simp [i0, tx]
  · rw [step1]
    simp
    rw [step2]
    simp
    rw [step2]
    simp [i1, tx]
  · rw [step1]
    simp
    rw [step2]
    simp
    rw [step2]
    simp
    rw [step2]
    simp [l6, tx]
  · rw [step1]
    simp
    rw [step2]
    simp
    rw [step2]
    simp
    rw [step2]
    simp [l7, tx]
end
end Lk53

set_option Elab.async false
set_option maxRecDepth 100000
set_option maxHeartbeats 1000000
namespace Lk53
open Rf
/-! ### a turn's networks -/
def h0 : St := match b30l1 with | .cons a _ => a | _ => .pass
def h1 : St := match b30l1 with | .cons _ (.cons a _) => a | _ => .pass
def h2 : St := match b30l1 with | .cons _ (.cons _ (.cons a _)) => a | _ => .pass
def h3 : St := match b30l1 with | .cons _ (.cons _ (.cons _ (.cons a _))) => a | _ => .pass
def h4 : St := match b30l1 with | .cons _ (.cons _ (.cons _ (.cons _ (.cons a _)))) => a | _ => .pass
def h5 : St := match b30l1 with | .cons _ (.cons _ (.cons _ (.cons _ (.cons _ (.cons a _))))) => a | _ => .pass
def h6 : St := match b30l1 with | .cons _ (.cons _ (.cons _ (.cons _ (.cons _ (.cons _ (.cons a _)))))) => a | _ => .pass
def h7 : St := match b30l1 with | .cons _ (.cons _ (.cons _ (.cons _ (.cons _ (.cons _ (.cons _ (.cons a _))))))) => a | _ => .pass
section
variable {k n : Nat} {z : Int} {C : D} {o : Ob} {x0 x2 x5 x6 x7 x8 x9 xa xb xc xd xe xf xg xh : Option D} {cs : List (Int × Int)}
theorem h0_ok (hk : 2 ≤ k) (ho : BagOk o) (hz : (n : Int) = z) (h16 : n ≤ 16) : ∃ (ks : List Int) (o' : Ob), exec l.G (l.call k) l.sub h0 (LE z C x0 x2 (some (dNet cs)) x6 x7 x8 x9 xa xb xc xd xe xf xg xh) [o] = .nx (LE z C x0 x2 (some (dNet cs)) x6 x7 x8 (some (dInts ks)) xa xb xc xd xe xf xg xh) [o'] ∧ BagOk o' ∧ ks.length = n ∧ ∀ x ∈ ks, -1000 ≤ x ∧ x ≤ 1000 := by
  have rga := rga_n (n := n) (by omega)
  rw [hz] at rga
  have rl : ((rI 0 1 n).map D.int).length = n := by rw [List.length_map, rI_len]
  generalize (rI 0 1 n).map D.int = Y at rga rl
  obtain ⟨ks, o', e, ho', kl, kp⟩ := draws (f := cturn l.G (l.call k) (.bin .sub (.call 19 (.cons (.var 1) (.cons (.cst (.int 9)) .nil))) (.cst (.int 4))) [14] (.nm 14) .nil (LE z C x0 x2 (some (dNet cs)) x6 x7 x8 x9 xa xb xc xd xe xf xg xh)) D.int (P := fun x => -1000 ≤ x ∧ x ≤ 1000) (R := []) ho (xs := Y) fun x hx o ho => by
    obtain ⟨v, o1, e1, ho1, v0, v1⟩ := take_call (k := k) (m := 9) (R := []) (by omega) ho rfl (by decide) (by decide)
    simp only [List.length_nil, Nat.zero_add] at e1
    exact ⟨v - 4, o1, by simp [cturn, e1], ho1, by omega, by omega⟩
  refine ⟨ks, o', ?_, ho', by rw [kl, rl], kp⟩
  unfold h0 b30l1
  dsimp only
  simp [rga, e]
  rfl
theorem h1_ok (hk : 2 ≤ k) (ho : BagOk o) : ∃ (bs : List Int) (o' : Ob), exec l.G (l.call k) l.sub h1 (LE z C x0 x2 (some (dNet cs)) x6 x7 x8 x9 xa xb xc xd xe xf xg xh) [o] = .nx (LE z C x0 x2 (some (dNet cs)) x6 x7 x8 x9 (some (dInts bs)) xb xc xd xe xf xg xh) [o'] ∧ BagOk o' ∧ bs.length = cs.length ∧ ∀ x ∈ bs, 0 ≤ x ∧ x ≤ 1 := by
  obtain ⟨bs, o', e, ho', kl, kp⟩ := draws (f := cturn l.G (l.call k) (.call 19 (.cons (.var 1) (.cons (.cst (.int 2)) .nil))) [15] (.nm 15) .nil (LE z C x0 x2 (some (dNet cs)) x6 x7 x8 x9 xa xb xc xd xe xf xg xh)) D.int (P := fun x => 0 ≤ x ∧ x ≤ 1) (R := []) ho (xs := cs.map dPart) fun x hx o ho => by
    obtain ⟨v, o1, e1, ho1, v0, v1⟩ := take_call (k := k) (m := 2) (R := []) (by omega) ho rfl (by decide) (by decide)
    simp only [List.length_nil, Nat.zero_add] at e1
    exact ⟨v, o1, by simp [cturn, e1], ho1, by omega, by omega⟩
  refine ⟨bs, o', ?_, ho', by rw [kl, List.length_map], kp⟩
  unfold h1 b30l1
  dsimp only
  simp [itemsOf, e]
  rfl
theorem h2_ok {ks bs : List Int} (hk : 2 ≤ k) (ho : BagOk o) (kl : ks.length = n) (hn : Net n cs) (hl : cs.length ≤ 1000) (he : bs.length = cs.length) : exec l.G (l.call k) l.sub h2 (LE z C x0 x2 (some (dNet cs)) x6 x7 x8 (some (dInts ks)) (some (dInts bs)) xb xc xd xe xf xg xh) [o] = .nx (LE z C x0 x2 (some (dNet cs)) x6 x7 (some (.lst [dInts (ledL ks cs bs), dInts (ordB ks cs)])) (some (dInts ks)) (some (dInts bs)) xb xc xd xe xf xg xh) [o] := by
  have hS := bagN ho
  have le := lexch_ok (k := k) (S := [o]) (xs := ks) (bs := bs) (cs := cs) (by omega) hS (by rw [kl]; exact hn) he.symm
  have lo := lord_ok (k := k) (xs := ks) (cs := cs) (kd := dInts ks) (o := o) (by omega) ho (.inl rfl) (by rw [kl]; exact hn) hl
  simp only [List.length_cons, List.length_nil, Nat.zero_add] at le
  have i0 : ∀ a b : D, idxD (.tup [a, b]) (.c (.int 0)) [o] = some a := fun a b => rfl
  unfold h2 b30l1
  dsimp only
  simp [le, lo, i0]
theorem h3_ok {ks bs : List Int} (hk : 8 ≤ k) (ho : BagOk o) (h1 : 1 ≤ n) (h16 : n ≤ 16) (kl : ks.length = n) (kb : ∀ x ∈ ks, -1000 ≤ x ∧ x ≤ 1000) (hn : Net n cs) (hl : cs.length ≤ 1000) (he : bs.length = cs.length) (hb : ∀ x ∈ bs, 0 ≤ x ∧ x ≤ 1) : exec l.G (l.call k) l.sub h3 (LE z C x0 x2 (some (dNet cs)) x6 x7 (some (.lst [dInts (ledL ks cs bs), dInts (ordB ks cs)])) (some (dInts ks)) (some (dInts bs)) xb xc xd xe xf xg xh) [o] = .nx (LE z C x0 x2 (some (dNet cs)) x6 x7 (some (.lst [dInts (ledL ks cs bs), dInts (ordB ks cs)])) (some (dInts ks)) (some (dInts bs)) xb xc xd xe xf xg xh) [o] := by
  have hS := bagN ho
  have ld := trim_pu (n := 1) (by simp [ints_pu]) hS rfl (led_ok (k := k) (S := [o]) (xs := ks) (cs := cs) (bs := bs) (by omega) hS (by omega) (by omega) (by rw [kl]; exact hn) hl he.symm hb)
  have bf := bfor_ok (k := k) (S := [o]) (xs := ks) (cs := cs) (by omega) hS (by omega) (by omega) kb (by rw [kl]; exact hn) hl
  simp only [List.length_cons, List.length_nil, Nat.zero_add] at bf
  have al := alike_call (k := k) (o := o) (d := .lst [dInts (ledL ks cs bs), dInts (ordB ks cs)]) (by omega) ho (pair_shows (led_bound cs bs ks kb) (fun x hx => by have := ordB_bit cs ks x hx; omega) (by rw [ledL_len]; omega) (by rw [ordB_len]; exact hl)) (fun _ => rfl)
  unfold h3 b30l1
  dsimp only
  simp [ld, bf, al]
theorem h4_ok (hk : 3 ≤ k) (ho : BagOk o) (hz : (n : Int) = z) (h16 : n ≤ 16) : ∃ (os : List Int) (o' : Ob), exec l.G (l.call k) l.sub h4 (LE z C x0 x2 x5 x6 x7 x8 x9 xa xb xc xd xe xf xg xh) [o] = .nx (LE z C x0 x2 x5 x6 x7 x8 x9 xa (some (.ptup (os.map D.int))) xc xd xe xf xg xh) [o'] ∧ BagOk o' ∧ os.Perm (rI 0 1 n) := by
  obtain ⟨os, o', e, ho', pm⟩ := mixed_ok (k := k) (xs := rI 0 1 n) (by omega) ho (by rw [rI_len]; omega)
  have rgl := rgl_n (n := n) (by omega)
  rw [hz] at rgl
  generalize (rI 0 1 n).map D.int = Y at rgl e
  refine ⟨os, o', ?_, ho', pm⟩
  have tp : tuppD (.lst (os.map D.int)) = some (.ptup (os.map D.int)) := rfl
  unfold h4 b30l1
  dsimp only
  simp [rgl, e, tp]
theorem h5_ok {os : List Int} (hk : 2 ≤ k) (ho : BagOk o) (hz : (n : Int) = z) (h16 : n ≤ 16) (hp : os.Perm (rI 0 1 n)) (hn : Net n cs) (hl : cs.length ≤ 1000) : exec l.G (l.call k) l.sub h5 (LE z C x0 x2 (some (dNet cs)) x6 x7 x8 x9 xa (some (.ptup (os.map D.int))) xc xd xe xf xg xh) [o] = .nx (LE z C x0 x2 (some (dNet cs)) x6 x7 x8 x9 xa (some (.ptup (os.map D.int))) (some (.tup [dInts (ordB (kysL os n) cs), dInts (ordF (kysL os n) cs)])) xd xe xf xg xh) [o] := by
  have lo := lord_ok (k := k) (xs := kysL os n) (cs := cs) (kd := .lst ((kysL os n).map D.int)) (o := o) (by omega) ho (.inr rfl) (by rw [kys_len]; exact hn) hl
  have rga := rga_n (n := n) (by omega)
  rw [hz] at rga
  have key : ∀ f : D → Store → Res (Option D), (∀ a ∈ rI 0 1 n, f (.int a) [o] = .ok (some (.c (.int ((os.idxOf a : Nat) : Int)))) [o]) → turns f ((rI 0 1 n).map D.int) [o] = .ok ((kysL os n).map D.int) [o] := fun f h => by
    rw [turns_mapF D.int (fun a => .c (.int ((os.idxOf a : Nat) : Int))) h]
    unfold kysL
    rw [List.map_map]
    rfl
  generalize hY : (rI 0 1 n).map D.int = Y at rga key
  unfold h5 b30l1
  dsimp only
  simp [rga]
  rw [key _ fun a ha => by simp [cturn, tix_ok (hp.mem_iff.mpr ha)]]
  simp [lo]
theorem h6_ok {os : List Int} (hk : 9 ≤ k) (ho : BagOk o) (hz : (n : Int) = z) (h1 : 1 ≤ n) (h16 : n ≤ 16) (hp : os.Perm (rI 0 1 n)) (hn : Net n cs) (hl : cs.length ≤ 1000) : exec l.G (l.call k) l.sub h6 (LE z C x0 x2 (some (dNet cs)) x6 x7 x8 x9 xa (some (.ptup (os.map D.int))) (some (.tup [dInts (ordB (kysL os n) cs), dInts (ordF (kysL os n) cs)])) xd xe xf xg xh) [o] = .nx (LE z C x0 x2 (some (dNet cs)) x6 x7 x8 x9 xa (some (.ptup (os.map D.int))) (some (.tup [dInts (ordB (kysL os n) cs), dInts (ordF (kysL os n) cs)])) xd xe xf xg xh) [o] := by
  have hS := bagN ho
  have tpu : puD (toD os n cs) = true := by unfold toD; split <;> simp [ints_pu]
  have tee : ∀ S, see S (toD os n cs) = toD os n cs := fun S => by unfold toD; split <;> rfl
  have to := trim_pu (n := 1) tpu hS rfl (to_ok (k := k) (os := os) (n := n) (cs := cs) (o := o) (by omega) ho hp h1 h16 hn hl)
  have al := alike_call (k := k) (o := o) (d := toD os n cs) (by omega) ho (to_shows hl) tee
  have rgl := rgl_n (n := n) (by omega)
  rw [hz] at rgl
  have ceq := cmp_intsT (a := ordF (kysL os n) cs) (b := rI 0 1 n)
  have ceq' : cmpD .eq (dInts (ordF (kysL os n) cs)) (.tup ((rI 0 1 n).map D.int)) = some (decide (ordF (kysL os n) cs = rI 0 1 n)) := ceq
  generalize (rI 0 1 n).map D.int = Y at rgl ceq'
  have i0 : ∀ a b : D, idxD (.tup [a, b]) (.c (.int 0)) [o] = some a := fun a b => rfl
  have i1 : ∀ a b : D, idxD (.tup [a, b]) (.c (.int 1)) [o] = some b := fun a b => rfl
  unfold h6 b30l1
  dsimp only
  by_cases hc : ordF (kysL os n) cs = rI 0 1 n
  · have td : toD os n cs = dInts (ordB (kysL os n) cs) := if_pos hc
    rw [decide_eq_true hc] at ceq'
    rw [td] at to al
    simp [to, i0, i1, rgl, ceq', al]
  · have td : toD os n cs = .non := if_neg hc
    rw [decide_eq_false hc] at ceq'
    rw [td] at to al
    simp [to, i0, i1, rgl, ceq', al]
theorem h7_ok (hk : 10 ≤ k) (ho : BagOk o) (hz : (n : Int) = z) (h1 : 1 ≤ n) (hn : Net n cs) (hl : cs.length ≤ 1000) : exec l.G (l.call k) l.sub h7 (LE z C x0 x2 (some (dNet cs)) x6 x7 x8 x9 xa xb xc xd xe xf xg xh) [o] = .nx (LE z C x0 x2 (some (dNet cs)) x6 x7 x8 x9 xa xb xc xd xe xf xg xh) [o] := by
  have hS := bagN ho
  unfold h7 b30l1
  dsimp only
  by_cases h8 : z < 8
  · have d1 := trim_pu (n := 1) (by simp) hS rfl (does_ok (k := k) (n := n) (z := z) (cs := cs) (o := o) (by omega) ho hz h1 (by omega) hn hl)
    have d2 := trim_pu (n := 1) (by simp) hS rfl (ldoes_ok (k := k) (n := n) (z := z) (cs := cs) (o := o) (by omega) ho hz (by omega) hn hl)
    have al := alike_call (k := k) (o := o) (d := .bl ((rowsN n [[]]).all (goodR cs))) (by omega) ho (bl_shows _) (fun _ => rfl)
    generalize (rowsN n [[]]).all (goodR cs) = b at d1 d2 al
    simp [h8, d1, d2, al]
  · simp [h8]
theorem net_exec (hk : 10 ≤ k) (ho : BagOk o) (hz : (n : Int) = z) (hn1 : 1 ≤ n) (h16 : n ≤ 16) (hn : Net n cs) (hl : cs.length ≤ 1000) :
    ∃ (y8 y9 ya yb yc : Option D) (o' : Ob), execs l.G (l.call k) l.sub b30l1 (LE z C x0 x2 (some (dNet cs)) x6 x7 x8 x9 xa xb xc xd xe xf xg xh) [o] = .nx (LE z C x0 x2 (some (dNet cs)) x6 x7 y8 y9 ya yb yc xd xe xf xg xh) [o'] ∧ BagOk o' := by
  obtain ⟨ks, o1, e0, ho1, kl, kb⟩ := h0_ok (k := k) (C := C) (x0 := x0) (x2 := x2) (x6 := x6) (x7 := x7) (x8 := x8) (x9 := x9) (xa := xa) (xb := xb) (xc := xc) (xd := xd) (xe := xe) (xf := xf) (xg := xg) (xh := xh) (cs := cs) (by omega) ho hz h16
  obtain ⟨bs, o2, e1, ho2, bl, bb⟩ := h1_ok (k := k) (z := z) (C := C) (x0 := x0) (x2 := x2) (x6 := x6) (x7 := x7) (x8 := x8) (x9 := some (dInts ks)) (xa := xa) (xb := xb) (xc := xc) (xd := xd) (xe := xe) (xf := xf) (xg := xg) (xh := xh) (cs := cs) (by omega) ho1
  have e2 := h2_ok (k := k) (z := z) (C := C) (x0 := x0) (x2 := x2) (x6 := x6) (x7 := x7) (x8 := x8) (xb := xb) (xc := xc) (xd := xd) (xe := xe) (xf := xf) (xg := xg) (xh := xh) (by omega) ho2 kl hn hl bl
  have e3 := h3_ok (k := k) (z := z) (C := C) (x0 := x0) (x2 := x2) (x6 := x6) (x7 := x7) (xb := xb) (xc := xc) (xd := xd) (xe := xe) (xf := xf) (xg := xg) (xh := xh) (by omega) ho2 hn1 h16 kl kb hn hl bl bb
  obtain ⟨os, o3, e4, ho3, pm⟩ := h4_ok (k := k) (C := C) (x0 := x0) (x2 := x2) (x5 := some (dNet cs)) (x6 := x6) (x7 := x7) (x8 := some (.lst [dInts (ledL ks cs bs), dInts (ordB ks cs)])) (x9 := some (dInts ks)) (xa := some (dInts bs)) (xb := xb) (xc := xc) (xd := xd) (xe := xe) (xf := xf) (xg := xg) (xh := xh) (by omega) ho2 hz h16
  have e5 := h5_ok (k := k) (C := C) (x0 := x0) (x2 := x2) (x6 := x6) (x7 := x7) (x8 := some (.lst [dInts (ledL ks cs bs), dInts (ordB ks cs)])) (x9 := some (dInts ks)) (xa := some (dInts bs)) (xc := xc) (xd := xd) (xe := xe) (xf := xf) (xg := xg) (xh := xh) (by omega) ho3 hz h16 pm hn hl
  have e6 := h6_ok (k := k) (C := C) (x0 := x0) (x2 := x2) (x6 := x6) (x7 := x7) (x8 := some (.lst [dInts (ledL ks cs bs), dInts (ordB ks cs)])) (x9 := some (dInts ks)) (xa := some (dInts bs)) (xd := xd) (xe := xe) (xf := xf) (xg := xg) (xh := xh) (by omega) ho3 hz hn1 h16 pm hn hl
  have e7 := h7_ok (k := k) (C := C) (x0 := x0) (x2 := x2) (x6 := x6) (x7 := x7) (x8 := some (.lst [dInts (ledL ks cs bs), dInts (ordB ks cs)])) (x9 := some (dInts ks)) (xa := some (dInts bs)) (xb := some (.ptup (os.map D.int))) (xc := some (.tup [dInts (ordB (kysL os n) cs), dInts (ordF (kysL os n) cs)])) (xd := xd) (xe := xe) (xf := xf) (xg := xg) (xh := xh) hk ho3 hz hn1 hn hl
  refine ⟨some (.lst [dInts (ledL ks cs bs), dInts (ordB ks cs)]), some (dInts ks), some (dInts bs), some (.ptup (os.map D.int)), some (.tup [dInts (ordB (kysL os n) cs), dInts (ordF (kysL os n) cs)]), o3, ?_, ho3⟩
  rw [show b30l1 = .cons h0 (.cons h1 (.cons h2 (.cons h3 (.cons h4 (.cons h5 (.cons h6 (.cons h7 .nil))))))) from rfl, exs_nx e0, rest_nx e1, rest_nx e2, rest_nx e3, rest_nx e4, rest_nx e5, rest_nx e6, rest_nx e7, rest_nil]
end
end Lk53

set_option Elab.async false
set_option maxRecDepth 100000
set_option maxHeartbeats 1000000
namespace Lk53
open Rf
/-! ### a turn -/
def u0 : St := match b30l3 with | .cons a _ => a | _ => .pass
def u1 : St := match b30l3 with | .cons _ (.cons a _) => a | _ => .pass
def u2 : St := match b30l3 with | .cons _ (.cons _ (.cons a _)) => a | _ => .pass
def u3 : St := match b30l3 with | .cons _ (.cons _ (.cons _ (.cons a _))) => a | _ => .pass
def u4 : St := match b30l3 with | .cons _ (.cons _ (.cons _ (.cons _ (.cons a _)))) => a | _ => .pass
def u5 : St := match b30l3 with | .cons _ (.cons _ (.cons _ (.cons _ (.cons _ (.cons a _))))) => a | _ => .pass
def u6 : St := match b30l3 with | .cons _ (.cons _ (.cons _ (.cons _ (.cons _ (.cons _ (.cons a _)))))) => a | _ => .pass
theorem rI_lt : ∀ (n : Nat) (lo : Int), (rI lo 1 n).Pairwise (· < ·)
  | 0, _ => List.Pairwise.nil
  | n + 1, lo => List.pairwise_cons.mpr ⟨fun x hx => by have := (rI_mem (c := 1) (m := 1) (by decide) (by decide) n (lo + 1) x hx).1; omega, rI_lt n (lo + 1)⟩
theorem rI_hi {n : Nat} : ∀ x ∈ rI 0 1 n, 0 ≤ x ∧ x < n := by
  have go : ∀ (n : Nat) (lo : Int), ∀ x ∈ rI lo 1 n, lo ≤ x ∧ x < lo + n := by
    intro n
    induction n with
    | zero => intro lo x h; cases h
    | succ n ih =>
      intro lo x h
      rcases List.mem_cons.mp h with rfl | h
      · omega
      · have := ih (lo + 1) x h
        omega
  intro x hx
  have := go n 0 x hx
  omega
theorem two_drawn {ys : List Int} {n : Nat} (h : ys.Perm (rI 0 1 n)) (h2 : 2 ≤ n) : ∃ c : Int × Int, sortI (ys.take 2) = [c.1, c.2] ∧ In n c := by
  have hl := h.length_eq
  rw [rI_len] at hl
  match ys, hl with
  | [], hl => simp at hl; omega
  | [a], hl => simp at hl; omega
  | a :: b :: r, hl =>
    have nd : (a :: b :: r).Nodup := h.nodup_iff.mpr ((rI_lt n 0).imp fun {x y} z e => by omega)
    have ne : a ≠ b := fun e => by
      subst e
      exact (List.nodup_cons.mp nd).1 (List.mem_cons_self ..)
    have ha := rI_hi a (h.mem_iff.mp (List.mem_cons_self ..))
    have hb := rI_hi b (h.mem_iff.mp (List.mem_cons_of_mem _ (List.mem_cons_self ..)))
    show ∃ c : Int × Int, insD a (insD b []) = _ ∧ _
    by_cases hab : a ≤ b
    · exact ⟨(a, b), if_pos hab, ha.1, by omega, hb.2⟩
    · exact ⟨(b, a), if_neg hab, hb.1, by omega, ha.2⟩
section
variable {k n : Nat} {z : Int} {o : Ob} {x0 x2 x3 x4 x5 x6 x7 x8 x9 xa xb xc xd xe xf xg xh : Option D} {cs : List (Int × Int)}
theorem u0_ok (hk : 2 ≤ k) (ho : BagOk o) : ∃ (n : Nat) (z : Int) (o' : Ob), exec l.G (l.call k) l.sub u0 [x0, some (.ref 0), x2, x3, x4, x5, x6, x7, x8, x9, xa, xb, xc, xd, xe, xf, xg, xh] [o] = .nx [x0, some (.ref 0), x2, some (.int z), x4, x5, x6, x7, x8, x9, xa, xb, xc, xd, xe, xf, xg, xh] [o'] ∧ BagOk o' ∧ (n : Int) = z ∧ 1 ≤ n ∧ n ≤ 16 := by
  obtain ⟨v, o1, e1, ho1, v0, v1⟩ := take_call (k := k) (m := 16) (R := []) (by omega) ho rfl (by decide) (by decide)
  simp only [List.length_nil, Nat.zero_add] at e1
  refine ⟨(1 + v).toNat, 1 + v, o1, ?_, ho1, by omega, by omega, by omega⟩
  unfold u0 b30l3
  dsimp only
  simp [e1]
theorem u1_ok (hk : 3 ≤ k) (ho : BagOk o) (h1 : 1 ≤ z) (h16 : z ≤ 16) : exec l.G (l.call k) l.sub u1 [x0, some (.ref 0), x2, some (.int z), x4, x5, x6, x7, x8, x9, xa, xb, xc, xd, xe, xf, xg, xh] [o] = .nx (LE z (dNet (netF z)) x0 x2 x5 x6 x7 x8 x9 xa xb xc xd xe xf xg xh) [o] := by
  have nw := network_ok (k := k) (S := [o]) (many := z) (by omega) (bagN ho) h1 h16
  simp only [List.length_cons, List.length_nil, Nat.zero_add] at nw
  unfold u1 b30l3
  dsimp only
  simp [nw]
theorem u2_ok (hk : 6 ≤ k) (ho : BagOk o) (h1 : 1 ≤ z) (h16 : z ≤ 16) (hz : (n : Int) = z) : exec l.G (l.call k) l.sub u2 (LE z (dNet (netF z)) x0 x2 x5 x6 x7 x8 x9 xa xb xc xd xe xf xg xh) [o] = .nx (LE z (dNet (netF z)) x0 x2 x5 x6 x7 x8 x9 xa xb xc xd xe xf xg xh) [o] := by
  have hS := bagN ho
  obtain ⟨e, nl, nn⟩ := net_cou h1 h16
  have hn : Net z (netF z) := nn
  have cou := couples_ok (k := k) (S := [o]) (many := z) (by omega) hS h1 h16
  rw [← e] at cou
  simp only [List.length_cons, List.length_nil, Nat.zero_add] at cou
  have isn := trim_pu (n := 1) (by simp) hS rfl (isnet_ok (k := k) (S := [o]) (many := z) (by omega) hS h1 h16 (net_th hn h16 (by omega)))
  rw [net_B hn] at isn
  have sh : Shows (dNet (netF z)) := net_shows (n := n) (by rw [hz]; exact hn) (by omega) (by omega)
  have al := alike_call (k := k) (o := o) (d := dNet (netF z)) (by omega) ho sh (fun _ => rfl)
  generalize dNet (netF z) = C at cou isn al
  unfold u2 b30l3
  dsimp only
  have it : cmpD .isnot (.bl true) (.bl true) = some false := rfl
  simp [cou, isn, al, it]
theorem u3_ok (hk : 8 ≤ k) (ho : BagOk o) (h1 : 1 ≤ z) (h16 : z ≤ 16) (hz : (n : Int) = z) (hn : Net n cs) (hl : cs.length ≤ 63) : ∃ (y5 y8 : Option D) (o' : Ob), exec l.G (l.call k) l.sub u3 (LE z (dNet cs) x0 x2 x5 x6 x7 x8 x9 xa xb xc xd xe xf xg xh) [o] = .nx (LE z (dNet cs) x0 x2 y5 x6 x7 y8 x9 xa xb xc xd xe xf xg xh) [o'] ∧ BagOk o' := by
  obtain ⟨ds, o', e, ho', dl, dp⟩ := draws (f := cturn l.G (l.call k) (.call 23 (.cons (.var 1) (.cons (.var 4) (.cons (.cst (.int 3)) .nil)))) [13] (.nm 13) .nil (LE z (dNet cs) x0 x2 x5 x6 x7 x8 x9 xa xb xc xd xe xf xg xh)) id (P := fun d => tnD 65 25 d = true) (R := []) ho (xs := rngN 0 1 4) fun x hx o ho => by
    obtain ⟨d, o1, e1, ho1, ht⟩ := bent_ok (n := 64) (m := 16) (by decide) (by decide) (by decide) 3 k (dNet cs) o (by omega) ho (net_tn hn (by omega) (by omega)) (net_eqOk cs)
    have e2 := trim_pu (n := 1) (tn_th (by decide) (by decide) d ht).2 (bagN ho1) rfl e1
    have e3 : trim 1 (l.call k 23 [.ref 0, dNet cs, .c (.int 3)] [o]) = .ok d [o1] := e2
    exact ⟨d, o1, by simp [cturn, e3], ho1, ht⟩
  rw [List.map_id] at e
  obtain ⟨y5, y8, el⟩ := things_loop (k := k) (z := z) (C := dNet cs) (x0 := x0) (x2 := x2) (x5 := x5) (x6 := x6) (x7 := x7) (x8 := x8) (x9 := x9) (xa := xa) (xb := xb) (xc := xc) (xd := xd) (xe := xe) (xf := xf) (xg := xg) (xh := xh) (ds := [.lst (cs.map dPart), .non, .tup [.tup [.int 0, .int z]], .tup [.tup [.int 1, .int 0]], .tup [.tup [.int 0, .int 0]]] ++ ds) (by omega) ho' h1 h16 (fun d hd => by
    rcases List.mem_append.mp hd with hd | hd
    · have iz : thD (.int z) = true := by simp only [thD, Bool.and_eq_true, decide_eq_true_eq]; omega
      simp only [List.mem_cons, List.not_mem_nil, or_false] at hd
      rcases hd with rfl | rfl | rfl | rfl | rfl
      · rfl
      · rfl
      · refine thD_tup.mpr ⟨by simp, fun x hx => ?_⟩
        cases List.mem_singleton.mp hx
        refine thD_tup.mpr ⟨by simp, fun x hx => ?_⟩
        simp only [List.mem_cons, List.not_mem_nil, or_false] at hx
        rcases hx with rfl | rfl
        · decide
        · exact iz
      · decide
      · decide
    · exact (tn_th (by decide) (by decide) d (dp d hd)).1)
  refine ⟨y5, y8, o', ?_, ho'⟩
  have r4 : rngI [.c (.int 4)] = some (rngN 0 1 4) := rfl
  have lst : ∀ xs : List D, bltD .list [.tup xs] = some (.lst xs) := fun xs => rfl
  have ad := bin_addL (xs := [.lst (cs.map dPart), .non, .tup [.tup [.int 0, .int z]], .tup [.tup [.int 1, .int 0]], .tup [.tup [.int 0, .int 0]]]) (ys := ds) (by rw [dl]; show 5 + 4 ≤ LINE; decide)
  have ei : evi l.G (l.call k) (match u3 with | .for_ _ q _ => q | _ => .seq (.cst .non)) (LE z (dNet cs) x0 x2 x5 x6 x7 x8 x9 xa xb xc xd xe xf xg xh) [o] = .ok ([.lst (cs.map dPart), .non, .tup [.tup [.int 0, .int z]], .tup [.tup [.int 1, .int 0]], .tup [.tup [.int 0, .int 0]]] ++ ds) [o'] := by
    unfold u3 b30l3
    dsimp only
    simp [lst, r4, e, ad, itemsOf]
  have ei' := ei
  unfold u3 b30l3 at ei'
  dsimp only at ei'
  unfold u3 b30l3
  dsimp only
  rw [ex_for, ei', out_ok]
  exact el
theorem u4_ok (hk : 4 ≤ k) (ho : BagOk o) (hz : (n : Int) = z) (h16 : n ≤ 16) : ∃ (ys : List D) (o' : Ob), exec l.G (l.call k) l.sub u4 (LE z (dNet cs) x0 x2 x5 x6 x7 x8 x9 xa xb xc xd xe xf xg xh) [o] = .nx (LE z (dNet cs) x0 x2 x5 (some (.lst ys)) x7 x8 x9 xa xb xc xd xe xf xg xh) [o'] ∧ BagOk o' ∧ ys.length ≤ 9 ∧ (2 ≤ n → ∃ ds : List (Int × Int), ys = ds.map dPart ∧ Net n ds) := by
  obtain ⟨v, o1, e1, ho1, v0, v1⟩ := take_call (k := k) (m := 9) (R := []) (by omega) ho rfl (by decide) (by decide)
  simp only [List.length_nil, Nat.zero_add] at e1
  have rg := rng1 (n := v) (by omega) v0
  have rl : (rngN 0 1 v.toNat).length ≤ 9 := by
    rw [rngN_I, List.length_map, rI_len]
    omega
  generalize rngN 0 1 v.toNat = Y at rg rl
  have rgl := rgl_n (n := n) (by omega)
  rw [hz] at rgl
  obtain ⟨as, o', e, ho', al, ap⟩ := draws (f := cturn l.G (l.call k) (.blt .tuple (.cons (.blt .sorted (.cons (.slc (.call 24 (.cons (.var 1) (.cons (.rgl false (.var 3)) .nil))) .nil (.cons (.cst (.int 2)) .nil)) .nil)) .nil)) [13] (.nm 13) .nil (LE z (dNet cs) x0 x2 x5 x6 x7 x8 x9 xa xb xc xd xe xf xg xh)) dInts (P := fun xs => 2 ≤ n → ∃ c : Int × Int, xs = [c.1, c.2] ∧ In n c) (R := []) ho1 (xs := Y) fun x hx o ho => by
    obtain ⟨ys, o', e, ho', pm⟩ := mixed_ok (k := k) (xs := rI 0 1 n) (by omega) ho (by rw [rI_len]; omega)
    have sl : slcP (.lst (ys.map D.int)) [] [.c (.int 2)] [o'] = some (.lst ((ys.take 2).map D.int)) := by
      rw [slcP_lst _ _ _ none (some 2) _ rfl rfl, cutD_to (by decide), List.map_take]
      rfl
    have srt : bltD .sorted [.lst ((ys.take 2).map D.int)] = some (.lst ((sortI (ys.take 2)).map D.int)) := by
      show (intsD ((ys.take 2).map D.int)).map _ = _
      rw [ints_get, Option.map_some]
    have tp : bltD .tuple [.lst ((sortI (ys.take 2)).map D.int)] = some (dInts (sortI (ys.take 2))) := rfl
    have td := two_drawn (n := n) pm
    generalize sortI (ys.take 2) = ss at srt tp td
    generalize ys.take 2 = tt at sl srt
    generalize (rI 0 1 n).map D.int = W at e rgl
    refine ⟨ss, o', ?_, ho', td⟩
    simp [cturn, rgl, e, sl, srt, tp]
  refine ⟨as.map dInts, o', ?_, ho', by rw [List.length_map, al]; exact rl, fun h2 => ?_⟩
  · unfold u4 b30l3
    dsimp only
    simp [e1, rg, e]
  · obtain ⟨ds, e, hd⟩ := unmap dPart (P := fun c => In n c) (ys := as.map dInts) fun y hy => by
      obtain ⟨a, ha, rfl⟩ := List.mem_map.mp hy
      obtain ⟨c, rfl, hc⟩ := ap a ha h2
      exact ⟨c, rfl, hc⟩
    exact ⟨ds, e, hd⟩
theorem cut_neg {α : Type} (xs : List α) : cutD xs none (some (-1)) = xs.take ((-1 + (xs.length : Int)).toNat) := by
  unfold cutD clD
  simp
theorem nets_loop {ds : List D} (hk : 10 ≤ k) (ho : BagOk o) (hz : (n : Int) = z) (h1 : 1 ≤ n) (h16 : n ≤ 16) (h : ∀ d ∈ ds, ∃ cs : List (Int × Int), d = dNet cs ∧ Net n cs ∧ cs.length ≤ 1000) {C : D} :
    ∃ (y5 y8 y9 ya yb yc : Option D) (o' : Ob), forL (.nm 5) (execs l.G (l.call k) l.sub b30l1) ds (LE z C x0 x2 x5 x6 x7 x8 x9 xa xb xc xd xe xf xg xh) [o] = .nx (LE z C x0 x2 y5 x6 x7 y8 y9 ya yb yc xd xe xf xg xh) [o'] ∧ BagOk o' := by
  obtain ⟨σ', S', e, y5, y8, y9, ya, yb, yc, o', rfl, rfl, ho'⟩ := forL_keep (tg := .nm 5) (b := execs l.G (l.call k) l.sub b30l1) (fun σ S => ∃ (y5 y8 y9 ya yb yc : Option D) (o' : Ob), σ = LE z C x0 x2 y5 x6 x7 y8 y9 ya yb yc xd xe xf xg xh ∧ S = [o'] ∧ BagOk o') (xs := ds) (σ := LE z C x0 x2 x5 x6 x7 x8 x9 xa xb xc xd xe xf xg xh) (S := [o]) ⟨x5, x8, x9, xa, xb, xc, o, rfl, rfl, ho⟩ fun d hd σ S ⟨y5, y8, y9, ya, yb, yc, o', q1, q2, ho'⟩ => by
    subst q1
    subst q2
    obtain ⟨cs, rfl, hn, hl⟩ := h d hd
    obtain ⟨w8, w9, wa, wb, wc, o2, e, ho2⟩ := net_exec (k := k) (C := C) (x0 := x0) (x2 := x2) (x6 := x6) (x7 := x7) (x8 := y8) (x9 := y9) (xa := ya) (xb := yb) (xc := yc) (xd := xd) (xe := xe) (xf := xf) (xg := xg) (xh := xh) hk ho' hz h1 h16 hn hl
    exact ⟨_, rfl, _, _, .inl e, some (dNet cs), w8, w9, wa, wb, wc, o2, rfl, rfl, ho2⟩
  exact ⟨y5, y8, y9, ya, yb, yc, o', e, ho'⟩
theorem u5_ok {ys : List D} (hk : 10 ≤ k) (ho : BagOk o) (hz : (n : Int) = z) (h1 : 1 ≤ n) (h16 : n ≤ 16) (hn : Net n cs) (hl : cs.length ≤ 63) (yl : ys.length ≤ 9) (hy : 2 ≤ n → ∃ ds : List (Int × Int), ys = ds.map dPart ∧ Net n ds) :
    ∃ (y5 y8 y9 ya yb yc : Option D) (o' : Ob), exec l.G (l.call k) l.sub u5 (LE z (dNet cs) x0 x2 x5 (some (.lst ys)) x7 x8 x9 xa xb xc xd xe xf xg xh) [o] = .nx (LE z (dNet cs) x0 x2 y5 (some (.lst ys)) x7 y8 y9 ya yb yc xd xe xf xg xh) [o'] ∧ BagOk o' := by
  have sl1 : cutD (cs.map dPart) (some 1) none = (cs.drop 1).map dPart := by
    rw [cutD_from (by decide), ← List.map_drop]
    rfl
  have sl2 : cutD (cs.map dPart) none (some (-1)) = (cs.take ((-1 + (cs.length : Int)).toNat)).map dPart := by
    rw [cut_neg, List.length_map, List.map_take]
  have n1 : Net n (cs.drop 1) := fun c hc => hn c (List.mem_of_mem_drop hc)
  have n2 : Net n (cs.take ((-1 + (cs.length : Int)).toNat)) := fun c hc => hn c (List.mem_of_mem_take hc)
  have l1 : (cs.drop 1).length ≤ 1000 := by rw [List.length_drop]; omega
  have l2 : (cs.take ((-1 + (cs.length : Int)).toNat)).length ≤ 1000 := by rw [List.length_take]; omega
  generalize cs.drop 1 = c1 at sl1 n1 l1
  generalize cs.take ((-1 + (cs.length : Int)).toNat) = c2 at sl2 n2 l2
  have last : ∃ ds : List (Int × Int), (if 1 < z then D.tup ys else .tup []) = dNet ds ∧ Net n ds ∧ ds.length ≤ 1000 := by
    by_cases h : 1 < z
    · obtain ⟨ds, rfl, hd⟩ := hy (by omega)
      rw [List.length_map] at yl
      exact ⟨ds, if_pos h, hd, by omega⟩
    · exact ⟨[], if_neg h, (fun c hc => by cases hc), by simp⟩
  obtain ⟨ds, ed, nd, ld⟩ := last
  obtain ⟨y5, y8, y9, ya, yb, yc, o', e, ho'⟩ := nets_loop (k := k) (x0 := x0) (x2 := x2) (x5 := x5) (x6 := some (.lst ys)) (x7 := x7) (x8 := x8) (x9 := x9) (xa := xa) (xb := xb) (xc := xc) (xd := xd) (xe := xe) (xf := xf) (xg := xg) (xh := xh) (ds := [dNet cs, dNet c1, dNet c2, dNet ds]) hk ho hz h1 h16 (fun d hd => by
    simp only [List.mem_cons, List.not_mem_nil, or_false] at hd
    rcases hd with rfl | rfl | rfl | rfl
    · exact ⟨cs, rfl, hn, by omega⟩
    · exact ⟨c1, rfl, n1, l1⟩
    · exact ⟨c2, rfl, n2, l2⟩
    · exact ⟨ds, rfl, nd, ld⟩) (C := dNet cs)
  refine ⟨y5, y8, y9, ya, yb, yc, o', ?_, ho'⟩
  have tp : ∀ xs : List D, bltD .tuple [.lst xs] = some (.tup xs) := fun xs => rfl
  have ei : evi l.G (l.call k) (match u5 with | .for_ _ q _ => q | _ => .seq (.cst .non)) (LE z (dNet cs) x0 x2 x5 (some (.lst ys)) x7 x8 x9 xa xb xc xd xe xf xg xh) [o] = .ok [dNet cs, dNet c1, dNet c2, dNet ds] [o] := by
    unfold u5 b30l3
    dsimp only
    by_cases h : 1 < z
    · rw [if_pos h] at ed
      simp [sl1, sl2, h, tp, itemsOf, ed]
    · rw [if_neg h] at ed
      simp [sl1, sl2, h, itemsOf, ed]
  have ei' := ei
  unfold u5 b30l3 at ei'
  dsimp only at ei'
  unfold u5 b30l3
  dsimp only
  rw [ex_for, ei', out_ok]
  exact e
theorem way_exec {w : Int} (hk : 10 ≤ k) (ho : BagOk o) (hz : (n : Int) = z) (h1 : 1 ≤ n) (h16 : n ≤ 16) (hn : Net n cs) (hl : cs.length ≤ 1000) (w0 : 0 ≤ w) (w8 : w < 8) : execs l.G (l.call k) l.sub b30l2 (LE z (dNet cs) x0 x2 x5 x6 (some (.int w)) x8 x9 xa xb xc xd xe xf xg xh) [o] = .cont (LE z (dNet cs) x0 x2 x5 x6 (some (.int w)) x8 x9 xa xb xc xd xe xf xg xh) [o] := by
  have ak := ask_ok (k := k) (n := n) (z := z) (cs := cs) (o := o) hk ho hz h1 h16 hn hl w w0 w8
  have s00 : l.sub 0 0 = true := rfl
  unfold b30l2
  simp [step1, ak, s00]
theorem u6_ok (hk : 10 ≤ k) (ho : BagOk o) (hz : (n : Int) = z) (h1 : 1 ≤ n) (h16 : n ≤ 16) (hn : Net n cs) (hl : cs.length ≤ 1000) : ∃ y7, exec l.G (l.call k) l.sub u6 (LE z (dNet cs) x0 x2 x5 x6 x7 x8 x9 xa xb xc xd xe xf xg xh) [o] = .nx (LE z (dNet cs) x0 x2 x5 x6 y7 x8 x9 xa xb xc xd xe xf xg xh) [o] := by
  obtain ⟨σ', S', e, y7, rfl, rfl⟩ := forL_keep (tg := .nm 7) (b := execs l.G (l.call k) l.sub b30l2) (fun σ S => ∃ y7, σ = LE z (dNet cs) x0 x2 x5 x6 y7 x8 x9 xa xb xc xd xe xf xg xh ∧ S = [o]) (xs := (rI 0 1 8).map D.int) (σ := LE z (dNet cs) x0 x2 x5 x6 x7 x8 x9 xa xb xc xd xe xf xg xh) (S := [o]) ⟨x7, rfl, rfl⟩ fun d hd σ S ⟨y7, q1, q2⟩ => by
    subst q1
    subst q2
    obtain ⟨w, hw, rfl⟩ := List.mem_map.mp hd
    have hb := rI_hi (n := 8) w hw
    exact ⟨LE z (dNet cs) x0 x2 x5 x6 (some (.int w)) x8 x9 xa xb xc xd xe xf xg xh, rfl, _, _, .inr (way_exec hk ho hz h1 h16 hn hl hb.1 (by have := hb.2; omega)), some (.int w), rfl, rfl⟩
  refine ⟨y7, ?_⟩
  have r8 : rngI [.c (.int 8)] = some ((rI 0 1 8).map D.int) := rfl
  unfold u6 b30l3
  dsimp only
  simp only [ex_for, evi_rng, evs_cons, evs_nil, ev_cst, bind_ok]
  show (lift (rngI [.c (.int 8)]) [o]).out _ _ = _
  rw [r8, lift_some, out_ok]
  exact e
end
def LawP (σ : Env) (S : Store) : Prop := ∃ (x0 x2 x3 x4 x5 x6 x7 x8 x9 xa xb xc xd xe xf xg xh : Option D) (o : Ob), σ = [x0, some (.ref 0), x2, x3, x4, x5, x6, x7, x8, x9, xa, xb, xc, xd, xe, xf, xg, xh] ∧ S = [o] ∧ BagOk o
theorem turn_exec {k : Nat} {σ : Env} {S : Store} (hk : 10 ≤ k) (h : LawP σ S) : ∃ (σ' : Env) (S' : Store), execs l.G (l.call k) l.sub b30l3 σ S = .nx σ' S' ∧ LawP σ' S' := by
  obtain ⟨x0, x2, x3, x4, x5, x6, x7, x8, x9, xa, xb, xc, xd, xe, xf, xg, xh, o, rfl, rfl, ho⟩ := h
  obtain ⟨n, z, o1, e0, ho1, hz, h1, h16⟩ := u0_ok (k := k) (x0 := x0) (x2 := x2) (x3 := x3) (x4 := x4) (x5 := x5) (x6 := x6) (x7 := x7) (x8 := x8) (x9 := x9) (xa := xa) (xb := xb) (xc := xc) (xd := xd) (xe := xe) (xf := xf) (xg := xg) (xh := xh) (by omega) ho
  have z1 : 1 ≤ z := by omega
  have z16 : z ≤ 16 := by omega
  obtain ⟨_, nl, nn⟩ := net_cou z1 z16
  have e1 := u1_ok (k := k) (x0 := x0) (x2 := x2) (x4 := x4) (x5 := x5) (x6 := x6) (x7 := x7) (x8 := x8) (x9 := x9) (xa := xa) (xb := xb) (xc := xc) (xd := xd) (xe := xe) (xf := xf) (xg := xg) (xh := xh) (by omega) ho1 z1 z16
  have e2 := u2_ok (k := k) (n := n) (x0 := x0) (x2 := x2) (x5 := x5) (x6 := x6) (x7 := x7) (x8 := x8) (x9 := x9) (xa := xa) (xb := xb) (xc := xc) (xd := xd) (xe := xe) (xf := xf) (xg := xg) (xh := xh) (by omega) ho1 z1 z16 hz
  have hn : Net n (netF z) := by rw [hz]; exact nn
  generalize netF z = cs at e1 e2 nl hn
  obtain ⟨y5, y8, o2, e3, ho2⟩ := u3_ok (k := k) (n := n) (x0 := x0) (x2 := x2) (x5 := x5) (x6 := x6) (x7 := x7) (x8 := x8) (x9 := x9) (xa := xa) (xb := xb) (xc := xc) (xd := xd) (xe := xe) (xf := xf) (xg := xg) (xh := xh) (by omega) ho1 z1 z16 hz hn nl
  obtain ⟨ys, o3, e4, ho3, yl, hy⟩ := u4_ok (k := k) (n := n) (x0 := x0) (x2 := x2) (x5 := y5) (x6 := x6) (x7 := x7) (x8 := y8) (x9 := x9) (xa := xa) (xb := xb) (xc := xc) (xd := xd) (xe := xe) (xf := xf) (xg := xg) (xh := xh) (cs := cs) (by omega) ho2 hz h16
  obtain ⟨w5, w8, w9, wa, wb, wc, o4, e5, ho4⟩ := u5_ok (k := k) (n := n) (x0 := x0) (x2 := x2) (x5 := y5) (x7 := x7) (x8 := y8) (x9 := x9) (xa := xa) (xb := xb) (xc := xc) (xd := xd) (xe := xe) (xf := xf) (xg := xg) (xh := xh) hk ho3 hz h1 h16 hn nl yl hy
  obtain ⟨w7, e6⟩ := u6_ok (k := k) (n := n) (x0 := x0) (x2 := x2) (x5 := w5) (x6 := some (.lst ys)) (x7 := x7) (x8 := w8) (x9 := w9) (xa := wa) (xb := wb) (xc := wc) (xd := xd) (xe := xe) (xf := xf) (xg := xg) (xh := xh) hk ho4 hz h1 h16 hn (by omega)
  refine ⟨_, _, ?_, x0, x2, some (.int z), some (dNet cs), w5, some (.lst ys), w7, w8, w9, wa, wb, wc, xd, xe, xf, xg, xh, o4, rfl, rfl, ho4⟩
  rw [show b30l3 = .cons u0 (.cons u1 (.cons u2 (.cons u3 (.cons u4 (.cons u5 (.cons u6 .nil)))))) from rfl, exs_nx e0, rest_nx e1, rest_nx e2, rest_nx e3, rest_nx e4, rest_nx e5, rest_nx e6, rest_nil]
abbrev levels : Nat := 31
def z0 : St := match b30 with | .cons a _ => a | _ => .pass
def z1 : St := match b30 with | .cons _ (.cons a _) => a | _ => .pass
def z2 : St := match b30 with | .cons _ (.cons _ (.cons a _)) => a | _ => .pass
theorem law_true (ns : List Int) (h : ns.length ≤ 63) : ∃ S', l.call levels 30 [.fz (ns.map D.int)] [] = .ok (.bl true) S' := by
  obtain ⟨o, e1, ho⟩ := bag_made (k := 30) (ns := ns) (by omega)
  obtain ⟨σ1, S1, e2, h2⟩ := forL_keep (tg := .nm 2) (b := execs l.G (l.call 30) l.sub b30l3) LawP (xs := rngN 0 1 4) (σ := [some (.fz (ns.map D.int)), some (.ref 0), none, none, none, none, none, none, none, none, none, none, none, none, none, none, none, none]) (S := [o]) ⟨_, _, _, _, _, _, _, _, _, _, _, _, _, _, _, _, _, o, rfl, rfl, ho⟩ fun x hx σ S h => by
    obtain ⟨x0, x2, x3, x4, x5, x6, x7, x8, x9, xa, xb, xc, xd, xe, xf, xg, xh, o, rfl, rfl, ho⟩ := h
    refine ⟨_, rfl, ?_⟩
    obtain ⟨σ', S', q1, q2⟩ := turn_exec (k := 30) (by omega) ⟨x0, some x, x3, x4, x5, x6, x7, x8, x9, xa, xb, xc, xd, xe, xf, xg, xh, o, rfl, rfl, ho⟩
    exact ⟨σ', S', .inl q1, q2⟩
  have r4 : rngI [.c (.int 4)] = some (rngN 0 1 4) := rfl
  have g0 : exec l.G (l.call 30) l.sub z0 [some (.fz (ns.map D.int)), none, none, none, none, none, none, none, none, none, none, none, none, none, none, none, none, none] [] = .nx [some (.fz (ns.map D.int)), some (.ref 0), none, none, none, none, none, none, none, none, none, none, none, none, none, none, none, none] [o] := by
    unfold z0 b30
    dsimp only
    simp [e1]
  have g1 : exec l.G (l.call 30) l.sub z1 [some (.fz (ns.map D.int)), some (.ref 0), none, none, none, none, none, none, none, none, none, none, none, none, none, none, none, none] [o] = .nx σ1 S1 := by
    unfold z1 b30
    dsimp only
    simp [r4, e2]
  have g2 : exec l.G (l.call 30) l.sub z2 σ1 S1 = .ret (.bl true) S1 := by
    unfold z2 b30
    dsimp only
    simp
  refine ⟨S1, ?_⟩
  rw [show levels = 30 + 1 from rfl, l.run (d := ⟨18, 1, b30⟩) (σ := [some (.fz (ns.map D.int)), none, none, none, none, none, none, none, none, none, none, none, none, none, none, none, none, none]) rfl rfl rfl]
  show (execs l.G (l.call 30) l.sub b30 _ _).res = _
  rw [show b30 = .cons z0 (.cons z1 (.cons z2 .nil)) from rfl, exs_nx g0, rest_nx g1, rest_ret g2]
  rfl
end Lk53

set_option Elab.async false
set_option maxRecDepth 100000
set_option maxHeartbeats 0
namespace Lk53
open PySem PySem.Spec PyProof.Rows L2 Rf
def loose0 : List Str := ["_wall", "FixError", "Nothing", "TooLarge", "is_number", "is_index", "is_sized", "is_tuple_of", "MOST_PLACES", "MOST_TRIED", "check_places", "compared", "network", "is_couple", "is_network", "check_network", "exchanged", "led", "bits_for", "bits_to", "all_bits", "does_order", "_law_is_int", "_law_is_index", "_law_bag", "_law_take", "_law_alike", "_law_couples", "_law_some", "_law_bent"]
def loose1 : List Str := ["_law_mixed", "_law_exchanged", "_law_ordered", "_law_does_order", "_law_is_couple", "_law_ask"]
def loose : List Str := loose0 ++ loose1
abbrev theRow : PySem.W.OpenRow := PySem.W.OpenLaw.row PySem.Challenge.rw_fixwright_k53_networks_that_put_rows_in
abbrev hk : PySem.W.Hook := Rf.hookX 5 l.fa l.fn l.file l.xs l.ts
def ob (s : PySem.W.SharedT) : Rf.AlX := Rf.obsXG 5 l.fa l.fn l.file l.xs l.ts (HandSHeadRun.getT s)
theorem ob_is (s : PySem.W.SharedT) : ob s = hk.obs s.abs := Rf.obsXG_eq (HandSHeadRun.getT_eq s)
theorem runs (w : World) : HandSHeadRun.RunEq theRow (PySem.W.view theRow.prog [40]) hk ob 20000 loose w := by
  intro os
  kernel_rfl
end Lk53
open PySem PySem.W PySem.Calls PyProof.Rows
theorem PySem.Challenge.cw_fixwright_k53_networks_that_put_rows_in_holds : PySem.Challenge.rw_fixwright_k53_networks_that_put_rows_in.Holds := by
  w_on; o_law
  refine HandSHeadRun.head_any (r := Lk53.theRow) (q := view Lk53.theRow.prog [40]) (H := Lk53.hk) (ob := Lk53.ob) (M := 20000) (loose := Lk53.loose) (d := HandSHeadRun.topDef Lk53.theRow.prog 40) (kwd := [])
    Lk53.ob_is (by kernel_rfl) (fun s => by kernel_rfl) Lk53.runs (by kernel_rfl) (by kernel_rfl) (by kernel_rfl) (by rfl) (by first | assumption | decide +kernel) (by decide +kernel) ⟨rfl, rfl, rfl, rfl, rfl, by decide +kernel⟩ ?hw ?hc
  case hw => w_witness2
  case hc =>
    exact Rf.walk_law (o := PySem.Challenge.rw_fixwright_k53_networks_that_put_rows_in) (n := 63) (k := Lk53.levels) (x := "script") Lk53.l 5 30 Lk53.r30 rfl rfl rfl (by decide) (by kernel_rfl) ⟨rfl, by decide, by decide⟩ (by kernel_rfl) (by decide +kernel) Lk53.rows_ok Lk53.binds (by decide) Lk53.xcond Lk53.law_true

