import PyProof.Rows.All
import Wide.All
import OpenK.AllK
import Wide.FinOn
import HandS.ForMost
import HandS.TupAny
import HandS.TupMul
import HandS.Zip
import HandS.Rev
import HandS.SortInts
import HandS.Conv
import HandS.More
import HandS.Style
import KE.GoesEnum
import HandS.Deep
import KE.KDictZip
import HandS.ExcValue
import HandS.Defaults
import HandS.IsInst
import HandS.Walk
import HandS.Exc
import HandS.WordsExc
import HandS.HeadHook1
import HandS.SetKeys
import KE.KStateDown
import HandS.Head0
import HandS.Head1
import HandS.Head2
import HandS.HeadEnd
import HandS.HeadHook2
import HandS.HeadHook3
import PySem.Challenge.RW_viewsheets_k09_whole_orders_do_as_copies
set_option Elab.async false
set_option linter.all false
set_option maxRecDepth 100000
set_option maxHeartbeats 4000000
namespace EV
open PySem PySem.Spec PyProof.Rows L2
theorem tuple_mulS (l : Addr) (items : Array Value) (n : Nat) (dd : Option Addr) (sl : Array (Option Value)) (x : Int) (u : Tok) (c0 : (decide (x < -(2 ^ 63)) || decide (x ≥ 2 ^ 63)) = false) (c1 : (items.isEmpty || x == 1) = true) :
    Meets (Builtin.«tuple.__mul__» ⟨[.ref l, .int x u], []⟩) (fun _ R s => s.heap.get? l = some { cls := .type "tuple", dict := dd, data := .seq items n, slots := sl } ∧ ∀ tk, R (.ok (.ret (Value.ref l))) { s with toks := tk }) :=
  .of_wp fun prog w A R s h => by
    obtain ⟨hp, g, d, tk, os⟩ := s
    obtain ⟨hl, h⟩ := h
    have f1 := AutoSeq1.idx_int
    wp_walk using wpAny_loadPart' hl
    repeat (first
      | (refine wpAny_ite_false (decide_eq_false (by rw [c0]; exact Bool.false_ne_true)) ?_; wp_walk using wpAny_loadPart' hl)
      | (refine wpAny_ite_true (decide_eq_true (by rw [c1])) ?_; wp_walk using wpAny_loadPart' hl))
    exact ⟨_, rfl, h _⟩
theorem tuple_mul0 (l : Addr) (items : Array Value) (n : Nat) (dd : Option Addr) (sl : Array (Option Value)) (x : Int) (u : Tok) (c0 : (decide (x < -(2 ^ 63)) || decide (x ≥ 2 ^ 63)) = false) (c1 : (items.isEmpty || x == 1) = false) (c2 : (decide (x ≤ 0) || items.isEmpty) = true) :
    Meets (Builtin.«tuple.__mul__» ⟨[.ref l, .int x u], []⟩) (fun _ R s => s.heap.get? l = some { cls := .type "tuple", dict := dd, data := .seq items n, slots := sl } ∧
      R (.ok (.ret (Value.ref s.heap.objs.size))) { s with heap := s.heap.push { cls := Value.type "tuple", data := Data.seq #[] }, toks := s.toks }) :=
  .of_wp fun prog w A R s h => by
    obtain ⟨hp, g, d, tk, os⟩ := s
    obtain ⟨hl, h⟩ := h
    have f1 := AutoSeq1.idx_int
    wp_walk using wpAny_loadPart' hl
    repeat (first
      | (refine wpAny_ite_false (decide_eq_false (by rw [c0]; exact Bool.false_ne_true)) ?_; wp_walk using wpAny_loadPart' hl)
      | (refine wpAny_ite_false (decide_eq_false (by rw [c1]; exact Bool.false_ne_true)) ?_; wp_walk using wpAny_loadPart' hl)
      | (refine wpAny_ite_true (decide_eq_true (by rw [c2])) ?_; wp_walk using wpAny_loadPart' hl))
    exact ⟨_, rfl, h⟩
/-- a tuple times an int, of any kind -/
def rRepA (K : PySem.W.Frag) : R2 := fun x y H Q => ∃ l k xs, x = .ref l ∧ y = .int k ∧ SqT K H l xs ∧ -(2 ^ 62) ≤ k ∧ k < 2 ^ 62 ∧ xs.length * k.toNat ≤ sizeLine ∧ ((xs = [] ∨ k = 1) → Q (.ref l) H) ∧ (¬ (xs = [] ∨ k = 1) → ∀ p, H p = none → Q (.ref p) (upd H p (.tup (List.replicate k.toNat xs).flatten)))
section
variable {X : Cx}
theorem op_repA : OpR X (binaryOp .Mult) (rRepA X.K) := by
  intro pins s σ H x y v u Q I rx ry h
  obtain ⟨l, k, xs, rfl, rfl, hT, h1, h2, hz, q1, q2⟩ := h
  cases rx
  obtain ⟨t, rfl⟩ := ry
  obtain ⟨its, r, ⟨⟨cls, dd, data, sl⟩, ho, hc, n, hd⟩, hs⟩ := I.tuple hT
  simp only at hc hd
  subst hc hd
  have hle : its.length = xs.length := r.length.symm
  have hsz0 : its.toArray.size = xs.length := by rw [List.size_toArray, hle]
  have c0 : (decide (k < -(2 ^ 63)) || decide (k ≥ 2 ^ 63)) = false := by
    rw [decide_eq_false (by omega), decide_eq_false (by omega)] <;> rfl
  have hemp : its.toArray.isEmpty = decide (xs = []) := by
    cases its with
    | nil =>
      have : xs = [] := List.eq_nil_of_length_eq_zero (by rw [← hle]; rfl)
      subst this; rfl
    | cons a b =>
      have : xs ≠ [] := by rintro rfl; cases hle
      rw [decide_eq_false this]; rfl
  by_cases hw : xs = [] ∨ k = 1
  · have c1 : (its.toArray.isEmpty || k == 1) = true := by
      rw [hemp]
      rcases hw with e | e
      · rw [decide_eq_true e]; rfl
      · rw [e, Bool.or_eq_true_iff]; exact .inr rfl
    refine wpAny_binaryOp_repeat_ref (T := "tuple") (U := "int") (by decide) ⟨_, ho, rfl⟩ (fun s' => typeIs_int s' k t) noFill_tuple_mul F.fills_int_mul F.slot_int_rmul repeat_tuple F.slot_int_index.lookup
      (call_meets F.slot_int_rmul (typeIs_int s k t) F.entry_int_rmul (F.args_int_rmul_2 _ _) (int_rmul_tuple k t l its.toArray n dd sl)
        ⟨ho, rfl, ⟨_, ho, rfl⟩, call_meets F.slot_tuple_mul ⟨_, ho, rfl⟩ F.entry_tuple_mul (F.args_tuple_mul_2 _ _) (tuple_mulS l its.toArray n dd sl k t c0 c1) ⟨ho, fun tk => ?_⟩⟩)
    exact ⟨.ref l, H, I.tok _, rfl, q1 hw⟩
  · have hx : xs ≠ [] := fun e => hw (.inl e)
    have hk : k ≠ 1 := fun e => hw (.inr e)
    have c1 : (its.toArray.isEmpty || k == 1) = false := by
      rw [hemp, decide_eq_false hx, Bool.false_or]
      exact beq_eq_false_iff_ne.mpr hk
    have q2 := q2 hw
    by_cases hk0 : k ≤ 0
    · have c2 : (decide (k ≤ 0) || its.toArray.isEmpty) = true := by rw [decide_eq_true hk0]; rfl
      refine wpAny_binaryOp_repeat_ref (T := "tuple") (U := "int") (by decide) ⟨_, ho, rfl⟩ (fun s' => typeIs_int s' k t) noFill_tuple_mul F.fills_int_mul F.slot_int_rmul repeat_tuple F.slot_int_index.lookup
        (call_meets F.slot_int_rmul (typeIs_int s k t) F.entry_int_rmul (F.args_int_rmul_2 _ _) (int_rmul_tuple k t l its.toArray n dd sl)
          ⟨ho, rfl, ⟨_, ho, rfl⟩, call_meets F.slot_tuple_mul ⟨_, ho, rfl⟩ F.entry_tuple_mul (F.args_tuple_mul_2 _ _) (tuple_mul0 l its.toArray n dd sl k t c0 c1 c2) ⟨ho, ?_⟩⟩)
      have e0 : k.toNat = 0 := by omega
      rw [e0] at q2
      refine ⟨.ref s.heap.objs.size, _, I.laid (t' := s.toks) (o := .tup []) (fun b ob q => Heap.get?_push_of_some _ q) (Nat.le_refl _) ?_, rfl, q2 _ (I.hok.fresh (Nat.le_refl _))⟩
      exact ⟨Nat.zero_le _, [], .nil, IsTup.new _ _⟩
    · have hkn : (k.toNat : Int) = k := by omega
      have c2 : (decide (k ≤ 0) || its.toArray.isEmpty) = false := by
        rw [hemp, decide_eq_false hx, decide_eq_false hk0]; rfl
      have hmul : ((its.toArray.size : Nat) : Int) * k = ((xs.length * k.toNat : Nat) : Int) := by rw [hsz0, Int.natCast_mul, hkn]
      have hz' : xs.length * k.toNat ≤ 16777216 := by rw [← sizeLine_eq]; exact hz
      have c4 : Builtin.Tuple.tupleTooMany (((its.toArray.size : Nat) : Int) * k) = false := by
        unfold Builtin.Tuple.tupleTooMany
        rw [sizeLine_eq, hmul]
        exact decide_eq_false (by omega)
      have flen : (List.replicate k.toNat its).flatten.length ≤ sizeLine := by
        rw [PyProof.Rows.lm_len_rep_flat, hle, Nat.mul_comm]
        exact hz
      refine wpAny_binaryOp_repeat_ref (T := "tuple") (U := "int") (by decide) ⟨_, ho, rfl⟩ (fun s' => typeIs_int s' k t) noFill_tuple_mul F.fills_int_mul F.slot_int_rmul repeat_tuple F.slot_int_index.lookup
        (call_meets F.slot_int_rmul (typeIs_int s k t) F.entry_int_rmul (F.args_int_rmul_2 _ _) (int_rmul_tuple k t l its.toArray n dd sl)
          ⟨ho, rfl, ⟨_, ho, rfl⟩, call_meets F.slot_tuple_mul ⟨_, ho, rfl⟩ F.entry_tuple_mul (F.args_tuple_mul_2 _ _) (tuple_mulW l its.toArray n dd sl k t c0 c1 c2 (by rw [hmul]; omega) c4 (by rw [size_rep, List.size_toArray]; exact flen)) ⟨ho, ?_⟩⟩)
      rw [size_rep]
      refine ⟨.ref s.heap.objs.size, _, I.laid (t' := s.toks) (o := .tup (List.replicate k.toNat xs).flatten) (fun b ob q => Heap.get?_push_of_some _ q) (Nat.le_refl _) ?_, rfl, q2 _ (I.hok.fresh (Nat.le_refl _))⟩
      exact ⟨by rw [PyProof.Rows.lm_len_rep_flat, Nat.mul_comm]; exact hz, _, r.rep k.toNat, IsTup.new _ _⟩
end
end EV

/-! ### sorted of a tuple -/
namespace PyProof.Rows
open PySem
section
variable {prog : Program} {w : World} {A : Around} {E : Value → Shared → Prop} {s : Shared}
theorem evCollectT {l : Addr} {vs : List Value} {Q : List Value → Shared → Prop} (hl : IsTup s.heap l vs.toArray)
    (h : Q vs { s with heap := (s.heap.push (seqObj "list" #[] 0)).update s.heap.objs.size (Obj.mapSeq (· ++ vs.toArray)) }) (hsz : vs.length ≤ sizeLine) :
    wpAny (model prog w) A (collect (.ref l)) Q E s := by
  obtain ⟨o, ho, hc, n, hd⟩ := id hl
  unfold collect
  refine wpAny_bind (wpAny_runValue (codeAny_builtin entry_proto_collect' ?_))
  show wpAny _ _ (do again (.builtin "list.__iadd__" ⟨[← newList [], .ref l], []⟩)) _ _ s
  refine wpAny_bind (wpAny_newList (wpAny_pure ⟨Code.quiet_builtin _ (by decide +kernel), codeAny_builtin entry_list_iadd' ?_⟩))
  show wpAny _ _ (Builtin.List.listExtendWith (.ref s.heap.objs.size) (.ref l) (.ref s.heap.objs.size)) _ _ { s with heap := s.heap.push (seqObj "list" #[] 0) }
  unfold Builtin.List.listExtendWith
  have ho' : (s.heap.push (seqObj "list" #[] 0)).get? l = some o := Heap.get?_push_of_some _ ho
  refine wpAny_bind (wpAny_typeOf (T := "tuple") ⟨o, ho', hc⟩ ?_)
  have ht : (Value.type "tuple" == Value.type "tuple") = true := by rfl
  rw [if_pos (by rw [ht]; simp)]
  refine wpAny_bind (listItems_at ho' hd ?_)
  refine wpAny_bind (listItems_at (xs := #[]) (n := 0) (Heap.get?_push_size _ rfl) rfl ?_)
  rw [if_neg (by simp)]
  refine wpAny_bind (listUpdate_at (xs := #[]) (n := 0) (Heap.get?_push_size _ rfl) rfl ?_ (Nat.zero_le _) (by show (#[] ++ vs.toArray).size ≤ sizeLine + 1; simp only [Array.size_append, List.size_toArray, List.length_nil]; omega))
  refine wpAny_pure ?_
  show wpAny (model prog w) A (do
      let o ← load s.heap.objs.size
      match o.data with
      | .seq xs _ => pure xs.toList
      | _ => unsupported "internal:collect") Q E { s with heap := (s.heap.push (seqObj "list" #[] 0)).update s.heap.objs.size (Obj.mapSeq (· ++ vs.toArray)) }
  refine wpAny_bind (wpAny_load (get?_update_seq (Heap.get?_push_size _ rfl) _) ?_)
  show wpAny _ _ (pure ((#[] : Array Value) ++ vs.toArray).toList) Q E _
  rw [show ((#[] : Array Value) ++ vs.toArray).toList = vs by simp]
  exact wpAny_pure h
end
end PyProof.Rows
namespace SrtO
open PySem PyProof.Rows Srt
section
variable {prog : Program} {w : World} {A : Around} {E : Value → Shared → Prop} {s : Shared}
theorem evSortedT {l : Addr} {vs : List Value} {ltv : Value → Value → Bool} {Q : Value → Shared → Prop} (O : Swo ltv) (hl : IsTup s.heap l vs.toArray) (hz : vs.length ≤ sizeLine)
    (hS : 2 ≤ vs.length → ∀ (h₁ : Heap) (a : Addr), h₁.get? a = some (seqObj "list" vs.toArray 0) → (∀ b o, s.heap.get? b = some o → b ≠ a ∧ h₁.get? b = some o) → SortableO prog w A.in1.in1 { s with heap := h₁ } a vs ltv)
    (h : ∀ out : List Value, Srtd ltv out → Stb ltv out vs → Q (.ref (s.heap.objs.size + 1)) { s with heap := sortedAll s.heap vs out.toArray }) :
    wpAny (model prog w) A (call (.builtin "sorted") [.ref l]) Q E s := by
  refine Calls.call_function_entry kind_sorted plain_sorted entry_sorted (args_sorted1 _) ?_
  unfold Builtin.«sorted»
  refine wpAny_bind (m := checkCount "sorted" 1 1 _) (wpAny_pure ?_)
  refine wpAny_bind (evCollectT hl ?_ hz)
  refine wpAny_bind (wpAny_newList ?_ hz)
  have hsz : ((s.heap.push (seqObj "list" #[] 0)).update s.heap.objs.size (Obj.mapSeq (· ++ vs.toArray))).objs.size = s.heap.objs.size + 1 := by
    rw [Heap.size_update, size_push']
  have hoL : (((s.heap.push (seqObj "list" #[] 0)).update s.heap.objs.size (Obj.mapSeq (· ++ vs.toArray))).push (seqObj "list" vs.toArray 0)).get? (s.heap.objs.size + 1) = some (seqObj "list" vs.toArray 0) := by
    rw [← hsz]; exact Heap.get?_push_size _ rfl
  have keep : ∀ b o, s.heap.get? b = some o → b ≠ s.heap.objs.size + 1 ∧ (((s.heap.push (seqObj "list" #[] 0)).update s.heap.objs.size (Obj.mapSeq (· ++ vs.toArray))).push (seqObj "list" vs.toArray 0)).get? b = some o := fun b o q => by
    have hlt : b < s.heap.objs.size := Heap.lt_size q
    refine ⟨Nat.ne_of_lt (Nat.lt_succ_of_lt hlt), Heap.get?_push_of_some _ ?_⟩
    rw [Heap.get?_update_ne _ _ _ _ (Nat.ne_of_lt hlt)]
    exact Heap.get?_push_of_some _ q
  show wpAny _ _ _ _ _ { s with heap := ((s.heap.push (seqObj "list" #[] 0)).update s.heap.objs.size (Obj.mapSeq (· ++ vs.toArray))).push (seqObj "list" vs.toArray 0) }
  rw [hsz]
  refine wpAny_bind (wpAny_holding (wpAny_call_entry slot_list_sort ⟨_, hoL, rfl⟩ entry_list_sort (list_sort_ord O hoL hz (fun h2 => hS h2 _ _ hoL keep) fun out hs hb => ⟨_, rfl, ?_⟩) (args_list_sort _)))
  exact wpAny_pure ⟨_, rfl, h out hs hb⟩
end
end SrtO
namespace EV
open PySem PySem.Spec PyProof.Rows L2
/-- sorted(t), a tuple of ints -/
def rSortedT (K : PySem.W.Frag) : List V → Hp → VK → Prop := fun vs H Q => ∃ (a : Addr) (ns : List Int), vs = [V.ref a] ∧ SqT K H a (ns.map V.int) ∧
  ∀ (ns' : List Int) (p : Addr), ns'.Perm ns → ns'.Pairwise (· ≤ ·) → H p = none → Q (.ref p) (upd H p (.lst (ns'.map V.int)))
theorem cr_sortedT {X : Cx} : CallR X (.builtin "sorted") (rSortedT X.K) := by
  intro pins s σ H vs us Q I r h
  obtain ⟨a, ns, rfl, hs, q⟩ := h
  obtain ⟨its, rv, hl, hz⟩ := I.tuple hs
  rw [Vals.ref1 r]
  have hi := rv.ints
  refine SrtO.evSortedT SrtO.swo_int hl (by rw [← rv.length]; exact hz) (fun h2 h₁ a' _ _ => SrtO.ints_sortable hi h2) fun out h1 h2 => ?_
  obtain ⟨k1, k2, k3⟩ := SrtO.ints_out hi h1 h2
  obtain ⟨ep, he'⟩ := PyProof.Rows.sortedAll_at s.heap its out.toArray
  have hlen : ((out.map SrtO.iv).map V.int).length ≤ sizeLine := by
    rw [List.length_map, k2.length_eq]
    rw [List.length_map] at hz
    exact hz
  exact ⟨.ref _, upd H (s.heap.objs.size + 1) (.lst ((out.map SrtO.iv).map V.int)), I.laid (t' := s.toks) (fun _ _ => PyProof.Rows.sortedAll_old) (Nat.le_succ _) ⟨hlen, out, ep, vals_of_ints k1, he'⟩, rfl, q _ _ k2 k3 (I.hok.fresh (Nat.le_succ _))⟩
end EV

set_option maxRecDepth 100000
set_option maxHeartbeats 4000000
namespace HT
open PySem PySem.Spec PyProof.Rows L2
theorem evFmCongr {α β : Type} {f g : α → Option β} : ∀ {l : List α}, (∀ x ∈ l, f x = g x) → l.filterMap f = l.filterMap g
  | [], _ => rfl
  | x :: l, h => by
    rw [List.filterMap_cons, List.filterMap_cons, h x (List.mem_cons_self ..), evFmCongr fun y hy => h y (List.mem_cons_of_mem _ hy)]
section
variable {prog : Program} {w : World} {A : Around} {E : Value → Shared → Prop} {s : Shared}
theorem evSliceRev {sl : Addr} {vs : Value} {n : Nat} {Q : Int × Int × Nat → Shared → Prop} (hs : s.heap.IsSliceOf sl .none .none vs) (ps : IsPart vs (some (-1)))
    (h : Q ((n : Int) - 1, -1, n) s) : wpAny (model prog w) A (Builtin.Slice.sliceApplied (.ref sl) (pure (n : Int))) Q E s := by
  obtain ⟨os, hos, hcs, hds⟩ := id hs
  unfold Builtin.Slice.sliceApplied Builtin.Slice.sliceFields
  refine wpAny_bind (wpAny_bind (wpAny_field hos hds (x := .none) rfl (wpAny_bind (wpAny_field hos hds (x := .none) rfl (wpAny_bind (wpAny_field hos hds (x := vs) rfl (wpAny_pure ?_)))))))
  refine wpAny_bind (slicePart_ ps ?_)
  show wpAny _ _ (if ((-1 : Int) == 0) = true then _ else _) _ _ s
  rw [if_neg (by decide)]
  refine wpAny_bind (slicePart_none (wpAny_bind (slicePart_none (wpAny_bind (wpAny_pure ?_)))))
  have e : Builtin.Slice.sliceAdjust none none (-1) (n : Int) = ((n : Int) - 1, -1) := by
    unfold Builtin.Slice.sliceAdjust
    simp
  have e2 : Builtin.Slice.slicePlaces ((n : Int) - 1) (-1) (-1) = n := by
    unfold Builtin.Slice.slicePlaces
    simp
    split <;> omega
  show wpAny _ _ (match Builtin.Slice.sliceAdjust none none (-1) (n : Int) with | (lo, hi) => pure (lo, (-1 : Int), Builtin.Slice.slicePlaces lo hi (-1))) _ _ s
  rw [e]
  show wpAny _ _ (pure ((n : Int) - 1, (-1 : Int), Builtin.Slice.slicePlaces ((n : Int) - 1) (-1) (-1))) _ _ s
  rw [e2]
  exact wpAny_pure h
theorem evPickRev (xs : Array Value) : ((List.range xs.size).filterMap fun (k : Nat) => xs[(((xs.size : Int) - 1) + (k : Int) * (-1)).toNat]?).toArray = xs.toList.reverse.toArray := by
  congr 1
  have e : (List.range xs.size).filterMap (fun (k : Nat) => xs[(((xs.size : Int) - 1) + (k : Int) * (-1)).toNat]?) = (List.range xs.size).filterMap (fun k => some (xs.toList.reverse.getD k Value.none)) := by
    refine evFmCongr fun k hk => ?_
    have hk := List.mem_range.mp hk
    have e1 : (((xs.size : Int) - 1) + (k : Int) * (-1)).toNat = xs.size - 1 - k := by omega
    rw [e1, List.getD_eq_getElem?_getD, List.getElem?_reverse (by simpa using hk), Array.getElem?_toList, Array.length_toList]
    rw [Array.getElem?_eq_getElem (by omega)]
    all_goals rfl
  rw [e, List.filterMap_eq_map']
  refine List.ext_getElem (by simp) fun i h1 h2 => ?_
  simp at h1 h2
  simp [h2]
theorem evItemRev {t sl : Addr} {items : Array Value} {vs : Value} {Q : Value → Shared → Prop} (ht : IsTup s.heap t items) (hs : s.heap.IsSliceOf sl .none .none vs) (ps : IsPart vs (some (-1)))
    (h : Q (.ref s.heap.objs.size) { s with heap := s.heap.push { cls := .type "tuple", data := .seq items.toList.reverse.toArray } })
    (hsz : items.size ≤ sizeLine) : wpAny (model prog w) A (getItem (.ref t) (.ref sl)) Q E s := by
  have htake : sizeOk (.seq items.toList.reverse.toArray) := by
    show items.toList.reverse.toArray.size ≤ sizeLine
    simpa using hsz
  obtain ⟨os, hos, hcs, hds⟩ := id hs
  have hTs : s.TypeIs (.ref sl) "slice" := ⟨os, hos, hcs⟩
  unfold getItem
  try with_reducible refine wpAny_holding ?_
  first | refine wpAny_bind (wpAny_pure ?_) | skip
  refine wpAny_bind (wpAny_sequenceKey ht.typeIs (by decide) ?_)
  refine wpAny_bind (wpAny_callSpecial?_slot (name := Str.ofString "__getitem__") ht.typeIs PyProof.Rows.slot_tuple_getitem
    (wpAny_call_entry PyProof.Rows.slot_tuple_getitem ht.typeIs entry_tuple_getitem ?_ (args_tuple_getitem _ _)))
  show wpAny _ _ (Builtin.Tuple.tupleItemsOf (.ref t) >>= _) _ _ s
  refine wpAny_bind (tupleItemsOf_ ht ?_)
  refine wpAny_bind (wpAny_typeOf hTs ?_)
  rw [if_pos (by decide)]
  refine wpAny_bind (evSliceRev hs ps ?_)
  have hno : ¬ ((((items.size : Int) - 1) == 0 && (-1 : Int) == 1 && items.size == items.size) = true) := by
    intro q
    rw [Bool.and_eq_true, Bool.and_eq_true] at q
    cases q.1.2
  show wpAny _ _ (if (((items.size : Int) - 1) == 0 && (-1 : Int) == 1 && items.size == items.size) = true then _ else _) _ _ s
  rw [if_neg hno, evPickRev]
  first
    | exact wpAny_bind (m := Builtin.Tuple.tupleExact _) (wpAny_newObj_type (wpAny_pure ⟨_, rfl, wpAny_pure h⟩) htake)
    | exact wpAny_bind (m := Builtin.Tuple.tupleExact _) (wpAny_newObj_type (wpAny_bind (wpAny_pure (wpAny_pure ⟨_, rfl, wpAny_pure h⟩))) htake)
    | exact wpAny_bind (wpAny_bind (m := Builtin.Tuple.tupleExact _) (wpAny_newObj_type (wpAny_pure (wpAny_pure ⟨_, rfl, wpAny_pure h⟩)) htake))
    | exact wpAny_bind (wpAny_bind (m := Builtin.Tuple.tupleExact _) (wpAny_newObj_type (wpAny_pure ⟨_, rfl, wpAny_pure h⟩) htake))
end
end HT
namespace EV
open PySem PySem.Spec PyProof.Rows L2
/-- t[::-1], xs[::-1] -/
def tRev (K : PySem.W.Frag) (te : TE) : TE := fun σ H Q => te σ H fun x H1 => ∃ a xs, x = .ref a ∧ ((SqL K H1 a xs ∧ ∀ p, H1 p = none → Q (.ref p) (upd H1 p (.lst xs.reverse))) ∨ (SqT K H1 a xs ∧ ∀ p, H1 p = none → Q (.ref p) (upd H1 p (.tup xs.reverse))))
theorem pe_rev {X : Cx} {e : Expr} {te : TE} {k : Nat} {p1 p2 p3 pos : Pos} (he : PE X e te) : PE X (.Subscript e (.Slice none none (some (.UnaryOp .USub (.Constant (.int 1) k p1) p2)) p3) pos) (tRev X.K te) := by
  refine ⟨fun pins s σ H Q I h => ?_⟩
  refine Subscript_ (thn (he.run pins s σ H _ I h) fun v s1 ⟨x, H1, I1, r1, q1⟩ => ?_)
  obtain ⟨a, xs, ex, q⟩ := q1
  subst ex
  cases r1
  have hst : PO X (some (.UnaryOp .USub (.Constant (.int 1) k p1) p2)) (tPart (tUn (rU fun i => .int (-i)) (tC (.int 1)))) := po_some (pe_un un_neg pe_int)
  refine wpAny_Slice (thn (po_none.run pins s1 σ H1 (fun o H2 => o = none ∧ H2 = H1) I1 ⟨rfl, rfl⟩) fun vl s2 ⟨l, H2, I2, pl, el, e2⟩ => ?_)
  subst el e2
  refine thn (po_none.run pins s2 σ H2 (fun o H3 => o = none ∧ H3 = H2) I2 ⟨rfl, rfl⟩) fun vu s3 ⟨u, H3, I3, pu, eu, e3⟩ => ?_
  subst eu e3
  refine thn (hst.run pins s3 σ H3 (fun o H4 => o = some (-1) ∧ H4 = H3) I3 ⟨1, rfl, -1, rfl, rfl, rfl⟩) fun vs s4 ⟨o, H4, I4, ps, eo, e4⟩ => ?_
  subst eo e4
  have I5 : Inv X pins σ H4 { s4 with heap := s4.heap.push { cls := .type "slice", data := .fields #[vl, vu, vs] } } := I4.kept (t' := s4.toks) fun b ob q => Heap.get?_push_of_some _ q
  show wpAny (model X.prog X.w) X.A (subscriptTail e (.Slice none none (some (.UnaryOp .USub (.Constant (.int 1) k p1) p2)) p3) (.ref a) (.ref s4.heap.objs.size)) (EP X pins σ Q) X.xe { s4 with heap := s4.heap.push { cls := .type "slice", data := .fields #[vl, vu, vs] } }
  cases pl
  cases pu
  rcases q with ⟨hx, q⟩ | ⟨hx, q⟩
  · obtain ⟨its, r, ht, hz⟩ := I5.list hx
    have hlen := r.length
    refine tail_any (ops := [.ref a, .ref s4.heap.objs.size]) ht.isList.typeIs (PySem.slot_list_getitem.lookup) ?_ (by with_unfolding_all rfl)
    refine wpAny_getItem_list_slice ht.isList (Heap.IsSliceOf.new _ _ _ vs) .none .none ps (by decide) ?_ (by rw [List.size_toArray]; omega)
    rw [PySem.W.krv_pick]
    refine ⟨.ref _, _, I5.laid (t' := s4.toks) (o := .lst xs.reverse) (fun b ob q => Heap.get?_push_of_some _ q) (Nat.le_refl _) ?_, rfl, q _ (I5.hok.fresh (Nat.le_refl _))⟩
    exact ⟨by rw [List.length_reverse]; exact hz, _, 0, r.reverse, Heap.get?_push_size _ rfl⟩
  · obtain ⟨its, r, ht, hz⟩ := I5.tuple hx
    have hlen := r.length
    refine tail_any (ops := [.ref a, .ref s4.heap.objs.size]) ht.typeIs (PyProof.Rows.slot_tuple_getitem.lookup) ?_ (by with_unfolding_all rfl)
    refine HT.evItemRev ht (Heap.IsSliceOf.new _ _ _ vs) ps ?_ (by rw [List.size_toArray]; omega)
    refine ⟨.ref _, _, I5.laid (t' := s4.toks) (o := .tup xs.reverse) (fun b ob q => Heap.get?_push_of_some _ q) (Nat.le_refl _) ?_, rfl, q _ (I5.hok.fresh (Nat.le_refl _))⟩
    exact ⟨by rw [List.length_reverse]; exact hz, _, r.reverse, IsTup.new _ _⟩
/-! ### range(..) as an argument -/
def rRgV (vs : List V) (H : Hp) (Q : Int → Int → Nat → Hp → Prop) : Prop := ∃ (i j c : Int) (n : Nat), ((vs = [.int j] ∧ i = 0 ∧ c = 1) ∨ (vs = [.int i, .int j] ∧ c = 1) ∨ vs = [.int i, .int j, .int c]) ∧ c ≠ 0 ∧ c.natAbs < 1073741824 ∧ Builtin.Range.small i j c = true ∧ Builtin.Range.rangeSize i j c = n ∧ n ≤ 2 ^ 24 ∧ Q i c n H
section
variable {X : Cx}
theorem eval_rg {e : Expr} {es : List Expr} {ta : TA} {p pos : Pos} (hg : Gl X "range") (hm : X.mg "range" = none) (ha : PA X (e :: es) ta)
    (hs : starEach (e :: es) X.env = (false, eval e X.env) :: starEach es X.env) (hpl : (backTo pos (starEach es X.env)).any (·.1) = false)
    {pins : List (Addr × Obj)} {s : Shared} {σ : L2.St} {H : Hp} {Q : Int → Int → Nat → Hp → Prop} (I : Inv X pins σ H s) (h : ta σ H fun vs H1 => rRgV vs H1 Q) :
    wpAny (model X.prog X.w) X.A (eval (.Call (.Name "range" p) (e :: es) [] pos) X.env) (fun x s' => ∃ r a b c t u v n H', x = .ref r ∧ IsRange s'.heap r a b c t u v ∧ Builtin.Range.small a b c = true ∧ Builtin.Range.rangeSize a b c = (n : Nat) ∧ n ≤ 2 ^ 24 ∧ Inv X pins σ H' s' ∧ Q a c n H') X.xe s := by
  refine Call_ (ld_blt I hg hm boot_range (PyProof.Rows.callWith_type1 (thn (ha.run pos pins s σ H _ I h) fun us s1 ⟨vs, H1, I1, r1, q1⟩ => ?_) hs hpl))
  obtain ⟨i, j, c, n, ev, c0, cz, c1, c2, c3, q⟩ := q1
  have kp : ∀ (o : Obj) (t : Nat), Inv X pins σ H1 { s1 with heap := s1.heap.push o, toks := t } := fun o t => I1.kept fun b u e => Heap.get?_push_of_some _ e
  rcases ev with ⟨rfl, rfl, rfl⟩ | ⟨rfl, rfl⟩ | rfl
  · cases r1 with
    | cons r rr =>
      cases rr
      obtain ⟨t, rfl⟩ := r
      exact call_range_1 ⟨_, 0, j, 1, _, _, _, n, H1, rfl, IsRange.new _ _ _ _ _ _ _, c1, c2, c3, I1.kept fun b u e => Heap.get?_push_of_some _ e, q⟩
  · cases r1 with
    | cons r rr =>
      cases rr with
      | cons r' rr =>
        cases rr
        obtain ⟨t, rfl⟩ := r
        obtain ⟨t', rfl⟩ := r'
        exact call_range_2 ⟨_, i, j, 1, _, _, _, n, H1, rfl, IsRange.new _ _ _ _ _ _ _, c1, c2, c3, I1.kept fun b u e => Heap.get?_push_of_some _ e, q⟩
  · cases r1 with
    | cons r rr =>
      cases rr with
      | cons r' rr =>
        cases rr with
        | cons r'' rr =>
          cases rr
          obtain ⟨t, rfl⟩ := r
          obtain ⟨t', rfl⟩ := r'
          obtain ⟨t'', rfl⟩ := r''
          exact call_range_3 c0 ⟨_, i, j, c, _, _, _, n, H1, rfl, IsRange.new _ _ _ _ _ _ _, c1, c2, c3, I1.kept fun b u e => Heap.get?_push_of_some _ e, q⟩
def rgVC (a c : Int) (n : Nat) : List V := (List.range n).map fun (k : Nat) => V.int (a + k * c)
theorem vals_rgC {a c : Int} {n : Nat} {acc : Array Value} (h : ItemsOf (fun i v => ∃ t, v = .int (a + i * c) t) acc n) : Vals (rgVC a c n) acc.toList := by
  have e : acc.toList.length = n := by rw [Array.length_toList]; exact h.1
  unfold rgVC
  rw [← e]
  refine vals_of_get acc.toList _ fun j u hj => ?_
  obtain ⟨t, rfl⟩ := h.2 j u (by rw [← hj, Array.getElem?_toList])
  exact ⟨t, rfl⟩
def tRgC (b : Bool) (ta : TA) : TE := fun σ H Q => ta σ H fun vs H1 => rRgV vs H1 fun a c n H2 => ∀ q, H2 q = none → Q (.ref q) (upd H2 q (if b then .tup (rgVC a c n) else .lst (rgVC a c n)))
theorem pe_rgL {e : Expr} {es : List Expr} {ta : TA} {p p1 pos pos1 : Pos} (hc : X.calm = true) (hg0 : Gl X "list") (hm0 : X.mg "list" = none) (hg : Gl X "range") (hm : X.mg "range" = none) (ha : PA X (e :: es) ta)
    (hs : starEach (e :: es) X.env = (false, eval e X.env) :: starEach es X.env) (hpl : (backTo pos (starEach es X.env)).any (·.1) = false) : PE X (.Call (.Name "list" p1) [.Call (.Name "range" p) (e :: es) [] pos] [] pos1) (tRgC false ta) := by
  refine ⟨fun pins s σ H Q I h => ?_⟩
  refine Call_ (ld_blt I hg0 hm0 boot_list (PyProof.Rows.callWith_type1 (args_cons (thn (eval_rg hg hm ha hs hpl I h) fun x s1 ⟨r, a, b, c, t, u, v, n, H1, ex, hr, h1, h2, h3, I1, q⟩ => args_nil ?_) rfl) rfl))
  subst ex
  refine call_list_range (n := n) (I1.ok.hd hc) hr h1 h2 h3 fun h' tk acc c' hk e' hi => ?_
  refine ⟨.ref s1.heap.objs.size, upd H1 s1.heap.objs.size (.lst (rgVC a c n)), I1.laid hk (Nat.le_refl _) (show ObjOk X.prog X.w _ _ _ (.lst (rgVC a c n)) from ⟨?_, acc.toList, c', vals_rgC hi, ?_⟩), rfl, q _ (I1.hok.fresh (Nat.le_refl _))⟩
  · unfold rgVC; rw [List.length_map, List.length_range, sizeLine_eq]; omega
  · rw [Array.toArray_toList]; exact e'
theorem pe_rgT {e : Expr} {es : List Expr} {ta : TA} {p p1 pos pos1 : Pos} (hc : X.calm = true) (hg0 : Gl X "tuple") (hm0 : X.mg "tuple" = none) (hg : Gl X "range") (hm : X.mg "range" = none) (ha : PA X (e :: es) ta)
    (hs : starEach (e :: es) X.env = (false, eval e X.env) :: starEach es X.env) (hpl : (backTo pos (starEach es X.env)).any (·.1) = false) : PE X (.Call (.Name "tuple" p1) [.Call (.Name "range" p) (e :: es) [] pos] [] pos1) (tRgC true ta) := by
  refine ⟨fun pins s σ H Q I h => ?_⟩
  refine Call_ (ld_blt I hg0 hm0 boot_tuple (PyProof.Rows.callWith_type1 (args_cons (thn (eval_rg hg hm ha hs hpl I h) fun x s1 ⟨r, a, b, c, t, u, v, n, H1, ex, hr, h1, h2, h3, I1, q⟩ => args_nil ?_) rfl) rfl))
  subst ex
  refine call_tuple_range (n := n) (I1.ok.hd hc) hr h1 h2 h3 fun h' tk acc hk hi => ?_
  have I2 : Inv X pins σ H1 { s1 with heap := h', toks := tk } := I1.kept hk
  refine ⟨.ref h'.objs.size, upd H1 h'.objs.size (.tup (rgVC a c n)), I2.laid (t' := tk) (fun c o e => Heap.get?_push_of_some _ e) (Nat.le_refl _) (show ObjOk X.prog X.w _ _ _ (.tup (rgVC a c n)) from ⟨?_, acc.toList, vals_rgC hi, ?_⟩), rfl, q _ (I2.hok.fresh (Nat.le_refl _))⟩
  · unfold rgVC; rw [List.length_map, List.length_range, sizeLine_eq]; omega
  · rw [Array.toArray_toList]; exact IsTup.new _ _
/-- d.get(k, x), d a written dict of numbers by texts -/
theorem pe_gget {o e f : Expr} {apos cpos : Pos} {td ty tx : TE} (ho : PE X o td) (he : PE X e ty) (hf : PE X f tx) (m : M2 X o "get" apos e f cpos) : PE X (.Call (.Attribute o "get" apos) [e, f] [] cpos)
    (fun σ H Q => td σ H fun x H1 => ∃ d es n, x = .ref d ∧ KDict X.K X.w d es n ∧ ty σ H1 fun y H2 => tx σ H2 fun z H3 => ∃ k r v, y = .str k ∧ PySem.W.nsIn X.K d k = some r ∧ (∀ u, RelV z u → RelV v (r.getD u)) ∧ Q v H3) := by
  refine ⟨fun pins s σ H Q I h => ?_⟩
  refine wpAny_Call_method m.base m.few m.line PySem.F.plainAttrs_dict PySem.F.slot_dict_get PySem.F.type_dict_get (thn (ho.run pins s σ H _ I h) fun u s1 ⟨x, H1, I1, rx, d, es, n, ex, D, q1⟩ => ?_)
  subst ex
  obtain rfl : u = Value.ref d := rx
  refine ⟨kd_type D I1, fun b q => ?_, ?_⟩
  · cases q
    exact ⟨_, I1.kIn _ _ D.at_, rfl⟩
  rw [m.trees]
  refine Calls.callWith_builtin rfl (Calls.evalArgs_plain (Calls.spliced_cons (thn (he.run pins s1 σ H1 _ I1 q1) fun iv s2 ⟨y, H2, I2, ry, q2⟩ =>
    Calls.spliced_cons (thn (hf.run pins s2 σ H2 _ I2 q2) fun fv s3 ⟨z, H3, I3, rz, k, r, v, ey, hr, hv, q3⟩ => Calls.spliced_nil ?_))))
  subst ey
  obtain ⟨t, rfl⟩ := ry
  refine call_meetsIn PySem.F.slot_dict_get (kd_type D I3) PySem.F.entry_dict_get (PySem.F.args_dict_get_3 _ _ _) (meets_dict_get_default (strKind X.prog X.w) d (PySem.strKind_is X.prog X.w k t) D.low fv) ⟨_, PySem.W.mapOf_K (prog := X.prog) I3.kIn D.at_ D.lit, ?_⟩
  rw [PySem.W.find_K D.at_ hr]
  exact ⟨v, H3, I3.tok _, hv _ rz, q3⟩
end
end EV

set_option maxRecDepth 100000
set_option maxHeartbeats 2000000
/-! zip of three tuples -/
namespace EV
open PySem PySem.Spec PyProof.Rows L2
/-- three tuples as they stand at each turn -/
def It3 (K : PySem.W.Frag) (a b c : Addr) : It :=
  ⟨fun i H => ∃ (xs ys zs : List V) (x y z : V), SqT K H a xs ∧ SqT K H b ys ∧ SqT K H c zs ∧ xs[i]? = some x ∧ ys[i]? = some y ∧ zs[i]? = some z,
    fun i H v H' => ∃ T x y z, v = .ref T ∧ H T = none ∧ H' = upd H T (.tup [x, y, z]) ∧ (∀ xs, SqT K H a xs → xs[i]? = some x) ∧ (∀ ys, SqT K H b ys → ys[i]? = some y) ∧ ∀ zs, SqT K H c zs → zs[i]? = some z,
    fun i H => ∃ xs ys zs : List V, SqT K H a xs ∧ SqT K H b ys ∧ SqT K H c zs ∧ i ≤ xs.length ∧ i ≤ ys.length ∧ i ≤ zs.length ∧ (i = xs.length ∨ i = ys.length ∨ i = zs.length)⟩
theorem turn_zip3 {P : Program} {w : World} {K : PySem.W.Frag} {elts : List Expr} {kk : Nat} {tpos : Pos} {a b c z TI TO i1 i2 i3 : Addr} (D : ZipSep3 z TI TO i1 i2 i3 [i1, a] [i2, b] [i3, c]) :
    Turn P w K (.Tuple elts kk tpos) (It3 K a b c) [z, TI, TO, i1, i2, i3] z (fun i h => IsZip h z TI TO .none ∧ IsTupOf3 h TI (.ref i1) (.ref i2) (.ref i3) ∧ (∃ x y u, IsTupOf3 h TO x y u) ∧ h.IsTupleIter i1 a i ∧ h.IsTupleIter i2 b i ∧ h.IsTupleIter i3 c i) where
  mem := by simp
  obj := fun i h st c hc => by
    obtain ⟨hz, hTI, ⟨x, y, u, hTO⟩, ⟨o1, e1, _, d1⟩, ⟨o2, e2, _, d2⟩, ⟨o3, e3, _, d3⟩⟩ := st
    have e' : c = z ∨ c = TI ∨ c = TO ∨ c = i1 ∨ c = i2 ∨ c = i3 := by simpa using hc
    rcases e' with q | q | q | q | q | q
    · rw [q]; exact ⟨_, hz, fun v q => nomatch q⟩
    · rw [q]; exact ⟨_, hTI, fun v q => nomatch q⟩
    · rw [q]; exact ⟨_, hTO, fun v q => nomatch q⟩
    · rw [q]; exact ⟨o1, e1, fun v q => by rw [d1] at q; cases q⟩
    · rw [q]; exact ⟨o2, e2, fun v q => by rw [d2] at q; cases q⟩
    · rw [q]; exact ⟨o3, e3, fun v q => by rw [d3] at q; cases q⟩
  keep := fun i h h' st k => by
    obtain ⟨hz, hTI, ⟨x, y, u, hTO⟩, h1, h2, h3⟩ := st
    exact ⟨k z (by simp) _ hz, k TI (by simp) _ hTI, ⟨x, y, u, k TO (by simp) _ hTO⟩, h1.at fun o q => k i1 (by simp) o q, h2.at fun o q => k i2 (by simp) o q, h3.at fun o q => k i3 (by simp) o q⟩
  item := by
    intro X hP hw hK hc i pins s σ H E I hf st hg
    subst hP hw hK
    obtain ⟨hz, hTI, ⟨x0, y0, z0, hTO⟩, h1, h2, h3⟩ := st
    obtain ⟨xs, ys, us, x, y, u0, hqx, hqy, hqu, hx, hy, hu0⟩ := hg
    obtain ⟨its, rv, p, _⟩ := I.tuple hqx
    obtain ⟨its2, rv2, p2, _⟩ := I.tuple hqy
    obtain ⟨its3, rv3, p3, _⟩ := I.tuple hqu
    obtain ⟨u, hu, ru⟩ := rv.get hx
    obtain ⟨u2, hu2, ru2⟩ := rv2.get hy
    obtain ⟨u3, hu3, ru3⟩ := rv3.get hu0
    have hzl : z < s.heap.objs.size := Heap.lt_size hz
    have hh : X.A.in1.handled = none := I.ok.hd hc
    have n1 : a ≠ i1 := fun e => by
      obtain ⟨o, ho, c1, _⟩ := h1
      obtain ⟨o', ho', c2, _⟩ := p
      rw [e, ho] at ho'
      cases ho'
      rw [c1] at c2
      simp at c2
    have n2 : b ≠ i2 := fun e => by
      obtain ⟨o, ho, c1, _⟩ := h2
      obtain ⟨o', ho', c2, _⟩ := p2
      rw [e, ho] at ho'
      cases ho'
      rw [c1] at c2
      simp at c2
    have n3 : c ≠ i3 := fun e => by
      obtain ⟨o, ho, c1, _⟩ := h3
      obtain ⟨o', ho', c2, _⟩ := p3
      rw [e, ho] at ho'
      cases ho'
      rw [c1] at c2
      simp at c2
    have lt1 : i < its.toArray.size := by have := (List.getElem?_eq_some_iff.mp hu).1; simpa using this
    have lt2 : i < its2.toArray.size := by have := (List.getElem?_eq_some_iff.mp hu2).1; simpa using this
    have lt3 : i < its3.toArray.size := by have := (List.getElem?_eq_some_iff.mp hu3).1; simpa using this
    refine wpAny_pyNext_zipD3_item D (Draws.tuple hh i1 a n1 its.toArray) (Draws.tuple hh i2 b n2 its2.toArray) (Draws.tuple hh i3 c n3 its3.toArray) hz hTI hTO ⟨h1, p⟩ ⟨h2, p2⟩ ⟨h3, p3⟩ lt1 lt2 lt3 fun x1 x2 x3 h' tk y1 y2 y3 z' TO' st1 st2 st3 hT hsz hk => ?_
    have y1 : x1 = u := by simp at y1; rw [hu] at y1; exact (Option.some.inj y1).symm
    have y2 : x2 = u2 := by simp at y2; rw [hu2] at y2; exact (Option.some.inj y2).symm
    have y3 : x3 = u3 := by simp at y3; rw [hu3] at y3; exact (Option.some.inj y3).symm
    subst y1 y2 y3
    refine ⟨_, rfl, wpAny_letOwnedTupleGo_zip (s := { s with heap := h', toks := tk }) z' fun h'' z'' sb => ?_⟩
    have hT2 : h''.get? s.heap.objs.size = some { cls := .type "tuple", data := .seq #[x1, x2, x3] } := (sb.2 _ (Nat.ne_of_gt hzl)).trans hT
    have new : ObjOk X.prog X.w (upd H s.heap.objs.size (.tup [x, y, u0])) h'' s.heap.objs.size (.tup [x, y, u0]) :=
      ⟨by show 3 ≤ sizeLine; decide, [x1, x2, x3], .cons ru (.cons ru2 (.cons ru3 .nil)), ⟨_, hT2, rfl, _, rfl⟩⟩
    have I1 : Inv X pins σ (upd H s.heap.objs.size (.tup [x, y, u0])) { s with heap := h'', toks := tk } :=
      I.turnedNew (t' := tk) (ch := [z, TI, TO, i1, i2, i3]) (fun c o hb q => (sb.2 c (fun q' => hb (by simp [q']))).trans (hk c o (fun q' => hb (by simp [q'])) (fun q' => hb (by simp [q'])) (fun q' => hb (by simp [q'])) (fun q' => hb (by simp [q'])) (fun q' => hb (by simp [q'])) q)) hf (Nat.le_refl _) new
    have ne : ∀ {c o}, s.heap.get? c = some o → s.heap.objs.size ≠ c := fun e => Nat.ne_of_gt (Heap.lt_size e)
    refine ⟨.ref s.heap.objs.size, _, I1, rfl, ⟨_, x, y, u0, rfl, I.hok.fresh (Nat.le_refl _), rfl, fun l hl => by rw [I.tuple_inj hl hqx]; exact hx, fun l hl => by rw [I.tuple_inj hl hqy]; exact hy, fun l hl => by rw [I.tuple_inj hl hqu]; exact hu0⟩, ⟨z'', ?_, ⟨x1, x2, x3, ?_⟩, ?_, ?_, ?_⟩, fun c hcm => ?_⟩
    · exact (sb.2 _ D.TIz).trans (hk _ _ D.TIz D.TITO D.TIi1 D.TIi2 D.TIi3 hTI)
    · exact (sb.2 _ D.TOz).trans TO'
    · exact st1.1.at fun o q => (sb.2 _ D.zi1.symm).trans q
    · exact st2.1.at fun o q => (sb.2 _ D.zi2.symm).trans q
    · exact st3.1.at fun o q => (sb.2 _ D.zi3.symm).trans q
    · have hlt : c < s.heap.objs.size := by
        have e' : c = z ∨ c = TI ∨ c = TO ∨ c = i1 ∨ c = i2 ∨ c = i3 := by simpa using hcm
        rcases e' with q | q | q | q | q | q
        · rw [q]; exact hzl
        · rw [q]; exact Heap.lt_size hTI
        · rw [q]; exact Heap.lt_size hTO
        · rw [q]; obtain ⟨_, e1, _⟩ := h1; exact Heap.lt_size e1
        · rw [q]; obtain ⟨_, e2, _⟩ := h2; exact Heap.lt_size e2
        · rw [q]; obtain ⟨_, e3, _⟩ := h3; exact Heap.lt_size e3
      rw [upd_ne (Nat.ne_of_lt hlt)]
      exact (hf c hcm).1
  done := by
    intro X hP hw hK hc i pins s σ H E I hf st hg
    subst hP hw hK
    obtain ⟨hz, hTI, ⟨x0, y0, z0, hTO⟩, h1, h2, h3⟩ := st
    obtain ⟨xs, ys, us, hqx, hqy, hqu, l1, l2, l3, hend⟩ := hg
    obtain ⟨its, rv, p, _⟩ := I.tuple hqx
    obtain ⟨its2, rv2, p2, _⟩ := I.tuple hqy
    obtain ⟨its3, rv3, p3, _⟩ := I.tuple hqu
    have m1 := rv.length
    have m2 := rv2.length
    have m3 := rv3.length
    have hh : X.A.in1.handled = none := I.ok.hd hc
    have n1 : a ≠ i1 := fun e => by
      obtain ⟨o, ho, c1, _⟩ := h1
      obtain ⟨o', ho', c2, _⟩ := p
      rw [e, ho] at ho'
      cases ho'
      rw [c1] at c2
      simp at c2
    have n2 : b ≠ i2 := fun e => by
      obtain ⟨o, ho, c1, _⟩ := h2
      obtain ⟨o', ho', c2, _⟩ := p2
      rw [e, ho] at ho'
      cases ho'
      rw [c1] at c2
      simp at c2
    have n3 : c ≠ i3 := fun e => by
      obtain ⟨o, ho, c1, _⟩ := h3
      obtain ⟨o', ho', c2, _⟩ := p3
      rw [e, ho] at ho'
      cases ho'
      rw [c1] at c2
      simp at c2
    exact wpAny_pyNext_zipD3_end D (Draws.tuple hh i1 a n1 its.toArray) (Draws.tuple hh i2 b n2 its2.toArray) (Draws.tuple hh i3 c n3 its3.toArray) hz hTI hTO ⟨h1, p⟩ ⟨h2, p2⟩ ⟨h3, p3⟩ (by simp; omega) (by simp; omega) (by simp; omega) (by simp; omega) fun h' tk hk => ⟨rfl, I.turnedL (t' := tk) (ch := [z, TI, TO, i1, i2, i3]) (fun c o hb q =>
      hk c o (fun q' => hb (by simp [q'])) (fun q' => hb (by simp [q'])) (fun q' => hb (by simp [q'])) (fun q' => hb (by simp [q'])) (fun q' => hb (by simp [q'])) q) hf⟩
  self := fun A i s Q E st h => wpAny_pyIter_zip st.1 h
def iZip3 (K : PySem.W.Frag) (ta : TA) : TI := fun σ H R => ta σ H fun vs H1 => ∃ a b c xs ys zs, vs = [.ref a, .ref b, .ref c] ∧ SqT K H1 a xs ∧ SqT K H1 b ys ∧ SqT K H1 c zs ∧ R (It3 K a b c) H1
theorem pi_zip3 {X : Cx} {e e2 e3 : Expr} {ta : TA} {p pos tpos : Pos} {elts : List Expr} {kk : Nat} (hg : Gl X "zip") (hm : X.mg "zip" = none) (ha : PA X [e, e2, e3] ta)
    (hs : starEach [e, e2, e3] X.env = (false, eval e X.env) :: starEach [e2, e3] X.env := by rfl) (hpl : (backTo pos (starEach [e2, e3] X.env)).any (·.1) = false := by rfl) :
    PI X (.Tuple elts kk tpos) (.Call (.Name "zip" p) [e, e2, e3] [] pos) (iZip3 X.K ta) := by
  refine ⟨fun pins s σ H R I h => ?_⟩
  refine Call_ (ld_blt I hg hm PyProof.Rows.boot_zip (PyProof.Rows.callWith_type1 (thn (ha.run pos pins s σ H _ I h) fun us s1 ⟨vs, H1, I1, r1, q1⟩ => ?_) hs hpl))
  obtain ⟨a, b, c, xs, ys, zs, ex, hqx, hqy, hqz, q⟩ := q1
  subst ex
  cases r1 with
  | cons r rr =>
    cases rr with
    | cons r' rr =>
      cases rr with
      | cons r'' rr =>
        cases rr
        cases r
        cases r'
        cases r''
        obtain ⟨its, rv, p1, _⟩ := I1.tuple hqx
        obtain ⟨its2, rv2, p2, _⟩ := I1.tuple hqy
        obtain ⟨its3, rv3, p3, _⟩ := I1.tuple hqz
        have g1 : s1.heap.IsTuple a its.toArray := p1
        have g2 : s1.heap.IsTuple b its2.toArray := p2
        have g3 : s1.heap.IsTuple c its3.toArray := p3
        have l1 : a < s1.heap.objs.size := let ⟨_, e, _⟩ := g1; Heap.lt_size e
        have l2 : b < s1.heap.objs.size := let ⟨_, e, _⟩ := g2; Heap.lt_size e
        have l3 : c < s1.heap.objs.size := let ⟨_, e, _⟩ := g3; Heap.lt_size e
        have fresh6 : ∀ c, c ∈ [s1.heap.objs.size + 5, s1.heap.objs.size + 3, s1.heap.objs.size + 4, s1.heap.objs.size, s1.heap.objs.size + 1, s1.heap.objs.size + 2] → FpOk X pins H1 c := fun c hcm => by
          have hle : s1.heap.objs.size ≤ c := by
            have e' : c = s1.heap.objs.size + 5 ∨ c = s1.heap.objs.size + 3 ∨ c = s1.heap.objs.size + 4 ∨ c = s1.heap.objs.size ∨ c = s1.heap.objs.size + 1 ∨ c = s1.heap.objs.size + 2 := by simpa using hcm
            rcases e' with z | z | z | z | z | z <;> rw [z]
            · exact Nat.le_add_right _ _
            · exact Nat.le_add_right _ _
            · exact Nat.le_add_right _ _
            · exact Nat.le_refl _
            · exact Nat.le_add_right _ _
            · exact Nat.le_add_right _ _
          exact I1.fpOk hle (I1.hok.fresh hle)
        refine zip_begins3 (begins_tuple a its.toArray) (begins_tuple b its2.toArray) (begins_tuple c its3.toArray) g1 g2 g3 fun h' hz hTI hTO e1 e2 e3 hsz hk => wpAny_pyIter_zip hz ?_
        have I2 : Inv X pins σ H1 { s1 with heap := h' } := I1.kept (t' := s1.toks) hk
        exact ⟨s1.heap.objs.size + 5, [s1.heap.objs.size + 5, s1.heap.objs.size + 3, s1.heap.objs.size + 4, s1.heap.objs.size, s1.heap.objs.size + 1, s1.heap.objs.size + 2], _, _, H1, rfl, I2, turn_zip3 (zip_sep3 (N := s1.heap.objs.size) (by simpa using l1) (by simpa using l2) (by simpa using l3)), ⟨hz, hTI, ⟨_, _, _, hTO⟩, ⟨_, e1, rfl, rfl⟩, ⟨_, e2, rfl, rfl⟩, ⟨_, e3, rfl, rfl⟩⟩, fresh6, q⟩
end EV

set_option maxRecDepth 100000
set_option maxHeartbeats 2000000
/-! zip of two tuples, both reversed -/
namespace EV
open PySem PySem.Spec PyProof.Rows L2 RT
section
variable {prog : Program} {w : World} {A : Around} {E : Value → Shared → Prop} {s : Shared}
theorem draw_rt_item {it t : Addr} {i : Nat} {items : Array Value} {x : Value} {Q : Value → Shared → Prop} (hit : IsRt s.heap it t (i : Int)) (ht : IsTup s.heap t items) (hx : items[i]? = some x) (hsz : items.size ≤ sizeLine)
    (hQ : ∀ h', IsRt h' it t ((i : Int) - 1) → Heap.SameBut it s.heap h' → Q x { s with heap := h', toks := s.toks + 1 }) : wpAny (model prog w) A (Builtin.SmallTypes.nextOf (.ref it)) Q E s := by
  obtain ⟨o, ho, hc, hd⟩ := id hit
  have hi : i < items.size := (Array.getElem?_eq_some_iff.mp hx).1
  have hT : s.TypeIs (.ref t) "tuple" := IsTup.typeOf' ht
  rw [sizeLine_eq] at hsz
  unfold Builtin.SmallTypes.nextOf
  refine wpAny_bind (wpAny_callSpecial?_slot (name := Str.ofString "__next__") hit.typeIs slot_rt_next
    (wpAny_call_entry slot_rt_next hit.typeIs entry_rt_next ?_ (args_rt_next _)))
  unfold Builtin.«reversed.__next__»
  refine wpAny_bind (wpAny_of_eq (a := (Value.ref it, [])) rfl ?_)
  try dsimp only
  refine wpAny_bind (wpAny_field ho hd (x := .ref t) rfl ?_)
  try dsimp only
  refine wpAny_bind (wpAny_field ho hd (x := rawInt (i : Int)) rfl ?_)
  show wpAny _ _ (if (i : Int) < 0 then _ else _) _ _ s
  rw [if_neg (by omega)]
  try dsimp only
  refine wpAny_bind (wpAny_specialOf hT get_tuple ?_)
  try dsimp only
  try rw [if_neg (by decide)]
  try dsimp only
  refine wpAny_bind (wpAny_mkInt ?_)
  refine wpAny_bind (wpAny_attempt ?_)
  have fin : seqIndex? (i : Int) items.size = some i := seqIndex_of (by omega) (by omega)
  refine PyProof.Rows.getItem_tuple (s := { s with toks := s.toks + 1 }) ht (by omega) (by omega) fin hx ?_
  try dsimp only
  refine wpAny_bind (wpAny_field (s := { s with toks := s.toks + 1 }) ho hd (x := rawInt (i : Int)) rfl ?_)
  try dsimp only
  refine wpAny_bind (wpAny_setField (s := { s with toks := s.toks + 1 }) ho hd (by simp) ?_)
  first
  | refine wpAny_pure ⟨x, rfl, wpAny_pure (hQ _ ?_ (Heap.SameBut.update ..))⟩
  | refine wpAny_bind (wpAny_pure (wpAny_pure ⟨x, rfl, wpAny_pure (hQ _ ?_ (Heap.SameBut.update ..))⟩))
  exact ⟨_, Heap.get?_update_self _ ho (Obj.isFreed_of_fields (Obj.data_mapFields hd _)), (Obj.cls_mapFields ..).trans hc, by
    rw [Obj.data_mapFields hd]; simp⟩
theorem draw_rt_end {it t : Addr} {Q : Value → Shared → Prop} (hh : A.handled = none) (hit : IsRt s.heap it t (-1))
    (hE : ∀ h' e, Heap.ExtBut it s.heap h' → (∃ o, h'.get? e = some o ∧ o.cls = .type "StopIteration") → E (.ref e) { s with heap := h' }) : wpAny (model prog w) A (Builtin.SmallTypes.nextOf (.ref it)) Q E s := by
  obtain ⟨o, ho, hc, hd⟩ := id hit
  unfold Builtin.SmallTypes.nextOf
  refine wpAny_bind (wpAny_callSpecial?_slot (name := Str.ofString "__next__") hit.typeIs slot_rt_next
    (wpAny_call_entry slot_rt_next hit.typeIs entry_rt_next ?_ (args_rt_next _)))
  unfold Builtin.«reversed.__next__»
  refine wpAny_bind (wpAny_of_eq (a := (Value.ref it, [])) rfl ?_)
  try dsimp only
  refine wpAny_bind (wpAny_field ho hd (x := .ref t) rfl ?_)
  try dsimp only
  refine wpAny_bind (wpAny_field ho hd (x := rawInt (-1)) rfl ?_)
  show wpAny _ _ (if (-1 : Int) < 0 then _ else _) _ _ s
  rw [if_pos (by decide)]
  try dsimp only
  refine wpAny_bind (wpAny_rule ?_)
  refine wpAny_bind ?_
  wp_delta
  refine wpAny_bind (wpAny_setField ho hd (by simp) ?_)
  have ho2 := Heap.get?_update_self (Obj.mapFields (·.setIfInBounds 1 (rawInt (-1)))) ho (Obj.isFreed_of_fields (Obj.data_mapFields hd _))
  refine wpAny_setField (s := { s with heap := s.heap.update it (Obj.mapFields (·.setIfInBounds 1 (rawInt (-1)))) }) ho2 (Obj.data_mapFields hd _) (by simp) ?_
  try dsimp only
  first
  | show wpAny _ _ (newExc (.type "StopIteration") [] >>= _) _ _ _
  | (refine wpAny_bind ?_; show wpAny _ _ (newExc (.type "StopIteration") [] >>= _) _ _ _)
  | (refine wpAny_bind ?_; wp_delta; show wpAny _ _ (newExc (.type "StopIteration") [] >>= _) _ _ _)
  refine wpAny_bind ?_
  simp only [newExc, newTuple]
  refine wpAny_bind (wpAny_newObj_type ?_ (by size_fits))
  refine wpAny_bind (m := firstArgMember _ _) (wpAny_of_eq (a := Value.none) (by first | rfl | (simp only [firstArgMember]; rfl)) ?_)
  refine wpAny_newObj_type ?_ (by size_fits)
  simp only [raiseNew]
  refine wpAny_bind (wpAny_handled ?_)
  first | rw [show A.in1.handled = none from hh] | rw [hh]
  refine wpAny_bind (wpAny_pure (wpAny_throw ?_))
  refine hE _ _ ?_ ⟨_, Heap.get?_push_size _ rfl, rfl⟩
  refine ((?_ : Heap.ExtBut it s.heap _).push _).push _
  exact fun b ob hb e => (Heap.get?_update_other _ _ (Ne.symm hb)).trans ((Heap.get?_update_other _ _ (Ne.symm hb)).trans e)
theorem draws_rt (hh : A.handled = none) (it t : Addr) (hne : t ≠ it) (items : Array Value) (hsz : items.size ≤ sizeLine) :
    Draws prog w A it [it, t] items.size (fun i v => items[items.size - 1 - i]? = some v) (fun i h => i ≤ items.size ∧ IsRt h it t ((items.size : Int) - 1 - (i : Nat)) ∧ IsTup h t items) where
  live := fun _ _ st => let ⟨o, ho, _⟩ := st.2.1; ⟨o, ho⟩
  frame := fun _ _ _ st hk => ⟨st.1, st.2.1.at fun o e => hk it (by simp) o e, by
    obtain ⟨o, ho, r⟩ := st.2.2
    exact ⟨o, hk t (by simp) o ho, r⟩⟩
  item := fun i s Q E hi st hQ => by
    obtain ⟨s0, s1, s2⟩ := st
    have e1 : (items.size : Int) - 1 - ((i : Nat) : Int) = ((items.size - 1 - i : Nat) : Int) := by omega
    rw [e1] at s1
    have hlt : items.size - 1 - i < items.size := by omega
    refine draw_rt_item s1 s2 (x := items[items.size - 1 - i]) (by simp [hlt]) hsz fun h' hit' hs' => ?_
    have e2 : ((items.size - 1 - i : Nat) : Int) - 1 = (items.size : Int) - 1 - ((i + 1 : Nat) : Int) := by omega
    rw [e2] at hit'
    refine hQ _ h' (s.toks + 1) (by simp [hlt]) ⟨by omega, hit', ?_⟩ hs'
    obtain ⟨o, ho, r⟩ := s2
    exact ⟨o, hs'.extBut _ _ hne ho, r⟩
  done := fun s Q E st hE => by
    obtain ⟨s0, s1, s2⟩ := st
    have e1 : (items.size : Int) - 1 - ((items.size : Nat) : Int) = -1 := by omega
    rw [e1] at s1
    exact draw_rt_end hh s1 hE
end
/-! ### zip(r1, r2) of two that are iterators themselves -/
abbrev grT (h : Heap) (r1 r2 : Addr) : Heap := h.push { cls := .type "tuple", data := .seq #[.ref r1, .ref r2] }
abbrev grO (h : Heap) (r1 r2 : Addr) : Heap := (grT h r1 r2).push { cls := .type "tuple", data := .seq #[.none, .none] }
abbrev grZ (h : Heap) (r1 r2 : Addr) : Heap := (grO h r1 r2).push { cls := .type "zip", data := .fields #[.none, .bool false, .bool false, .ref h.objs.size, .ref (grT h r1 r2).objs.size] }
theorem meets_zip_newR {r1 r2 t1 t2 : Addr} {n1 n2 : Int} :
    Meets (Builtin.«zip.__new__» ⟨[.type "zip", .ref r1, .ref r2], []⟩) (fun _ R s => (IsRt s.heap r1 t1 n1 ∧ IsRt s.heap r2 t2 n2) ∧
      R (.ok (.ret (.ref (grO s.heap r1 r2).objs.size))) { s with heap := grZ s.heap r1 r2 }) :=
  .of_wp fun prog w A R s h => by
    obtain ⟨hp, g, d, tk, os⟩ := s; obtain ⟨⟨h1, h2⟩, h⟩ := h
    have hsub := sub_zip
    have q1 : ∀ {A' : Around} {E : Value → Shared → Prop} {Q : Value → Shared → Prop}, Q (.ref r1) ⟨hp, g, d, tk, os⟩ → wpAny (model prog w) A' (pyIter (.ref r1)) Q E ⟨hp, g, d, tk, os⟩ :=
      fun q => iter_rt (s := ⟨hp, g, d, tk, os⟩) h1 q
    have q2 : ∀ {A' : Around} {E : Value → Shared → Prop} {Q : Value → Shared → Prop}, Q (.ref r2) ⟨hp, g, d, tk, os⟩ → wpAny (model prog w) A' (pyIter (.ref r2)) Q E ⟨hp, g, d, tk, os⟩ :=
      fun q => iter_rt (s := ⟨hp, g, d, tk, os⟩) h2 q
    wp_walk using q1, q2
    exact ⟨_, rfl, h⟩
section
variable {prog : Program} {w : World} {A : Around} {E : Value → Shared → Prop} {s : Shared}
theorem zip_beginsR {r1 r2 t1 t2 : Addr} {n1 n2 : Int} {Q : Value → Shared → Prop} (h1 : IsRt s.heap r1 t1 n1) (h2 : IsRt s.heap r2 t2 n2)
    (h : ∀ h', IsZip h' (s.heap.objs.size + 2) s.heap.objs.size (s.heap.objs.size + 1) .none → IsTupOf2 h' s.heap.objs.size (.ref r1) (.ref r2) →
      IsTupOf2 h' (s.heap.objs.size + 1) .none .none → (∀ c o, s.heap.get? c = some o → h'.get? c = some o) → Q (.ref (s.heap.objs.size + 2)) { s with heap := h' }) :
    wpAny (model prog w) A (call (.type "zip") [.ref r1, .ref r2]) Q E s := by
  refine callType_new F.called_zip (by decide) (F.typeCall_zip_2 _ _) (F.newCall_zip_2 _ _) (fun obj => F.args_object_init_3 obj _ _) F.entry_zip_new
    (meets_zip_newR (t1 := t1) (t2 := t2) (n1 := n1) (n2 := n2)) ⟨⟨h1, h2⟩, ?_⟩
  have zT : (grT s.heap r1 r2).objs.size = s.heap.objs.size + 1 := by rw [Heap.size_push]
  have zO : (grO s.heap r1 r2).objs.size = s.heap.objs.size + 2 := by rw [Heap.size_push, zT]
  have gZ : (grZ s.heap r1 r2).get? (grO s.heap r1 r2).objs.size = some { cls := .type "zip", data := .fields #[.none, .bool false, .bool false, .ref s.heap.objs.size, .ref (grT s.heap r1 r2).objs.size] } := Heap.get?_push_size _ rfl
  have gO : (grZ s.heap r1 r2).get? (grT s.heap r1 r2).objs.size = some { cls := .type "tuple", data := .seq #[.none, .none] } := Heap.get?_push_of_some _ (Heap.get?_push_size _ rfl)
  have gT : (grZ s.heap r1 r2).get? s.heap.objs.size = some { cls := .type "tuple", data := .seq #[.ref r1, .ref r2] } := Heap.get?_push_of_some _ (Heap.get?_push_of_some _ (Heap.get?_push_size _ rfl))
  rw [zO, zT] at gZ
  rw [zT] at gO
  show _ ∧ _
  rw [zO]
  exact ⟨⟨_, gZ, rfl⟩, h _ gZ gT gO fun c o e => Heap.get?_push_of_some _ (Heap.get?_push_of_some _ (Heap.get?_push_of_some _ e))⟩
end
/-- two tuples from behind, the items in new pairs -/
def ItR (K : PySem.W.Frag) (a b : Addr) (n m : Nat) : It :=
  ⟨fun i H => i < n ∧ i < m ∧ ∃ (xs ys : List V) (x y : V), SqT K H a xs ∧ xs.length = n ∧ SqT K H b ys ∧ ys.length = m ∧ xs[n - 1 - i]? = some x ∧ ys[m - 1 - i]? = some y,
    fun i H v H' => ∃ T x y, v = .ref T ∧ H T = none ∧ H' = upd H T (.tup [x, y]) ∧ (∀ xs, SqT K H a xs → xs[n - 1 - i]? = some x) ∧ ∀ ys, SqT K H b ys → ys[m - 1 - i]? = some y,
    fun i H => i ≤ n ∧ i ≤ m ∧ (i = n ∨ i = m) ∧ ∃ xs ys : List V, SqT K H a xs ∧ xs.length = n ∧ SqT K H b ys ∧ ys.length = m⟩
theorem turn_zipr {P : Program} {w : World} {K : PySem.W.Frag} {elts : List Expr} {kk : Nat} {tpos : Pos} {a b z TI TO i1 i2 : Addr} {n m : Nat} (D : ZipSep2 z TI TO i1 i2 [i1, a] [i2, b]) :
    Turn P w K (.Tuple elts kk tpos) (ItR K a b n m) [z, TI, TO, i1, i2] z (fun i h => IsZip h z TI TO .none ∧ IsTupOf2 h TI (.ref i1) (.ref i2) ∧ (∃ x y, IsTupOf2 h TO x y) ∧ IsRt h i1 a ((n : Int) - 1 - (i : Nat)) ∧ IsRt h i2 b ((m : Int) - 1 - (i : Nat))) where
  mem := by simp
  obj := fun i h st c hc => by
    obtain ⟨hz, hTI, ⟨x, y, hTO⟩, ⟨o1, e1, _, d1⟩, ⟨o2, e2, _, d2⟩⟩ := st
    have e' : c = z ∨ c = TI ∨ c = TO ∨ c = i1 ∨ c = i2 := by simpa using hc
    rcases e' with q | q | q | q | q
    · rw [q]; exact ⟨_, hz, fun v q => nomatch q⟩
    · rw [q]; exact ⟨_, hTI, fun v q => nomatch q⟩
    · rw [q]; exact ⟨_, hTO, fun v q => nomatch q⟩
    · rw [q]; exact ⟨o1, e1, fun v q => by rw [d1] at q; cases q⟩
    · rw [q]; exact ⟨o2, e2, fun v q => by rw [d2] at q; cases q⟩
  keep := fun i h h' st k => by
    obtain ⟨hz, hTI, ⟨x, y, hTO⟩, h1, h2⟩ := st
    exact ⟨k z (by simp) _ hz, k TI (by simp) _ hTI, ⟨x, y, k TO (by simp) _ hTO⟩, h1.at fun o q => k i1 (by simp) o q, h2.at fun o q => k i2 (by simp) o q⟩
  item := by
    intro X hP hw hK hc i pins s σ H E I hf st hg
    subst hP hw hK
    obtain ⟨hz, hTI, ⟨x0, y0, hTO⟩, h1, h2⟩ := st
    obtain ⟨hn, hm, xs, ys, x, y, hqx, lx, hqy, ly, hx, hy⟩ := hg
    obtain ⟨its, rv, p, z1⟩ := I.tuple hqx
    obtain ⟨its2, rv2, p2, z2⟩ := I.tuple hqy
    obtain ⟨u, hu, ru⟩ := rv.get hx
    obtain ⟨u2, hu2, ru2⟩ := rv2.get hy
    have l1 := rv.length
    have l2 := rv2.length
    have hzl : z < s.heap.objs.size := Heap.lt_size hz
    have hh : X.A.in1.handled = none := I.ok.hd hc
    have n1 : a ≠ i1 := fun e => by
      obtain ⟨o, ho, c1, _⟩ := h1
      obtain ⟨o', ho', c2, _⟩ := p
      rw [e, ho] at ho'
      cases ho'
      rw [c1] at c2
      simp at c2
    have n2 : b ≠ i2 := fun e => by
      obtain ⟨o, ho, c1, _⟩ := h2
      obtain ⟨o', ho', c2, _⟩ := p2
      rw [e, ho] at ho'
      cases ho'
      rw [c1] at c2
      simp at c2
    have s1 : its.toArray.size = n := by rw [List.size_toArray, ← l1, lx]
    have s2 : its2.toArray.size = m := by rw [List.size_toArray, ← l2, ly]
    have g1 : IsRt s.heap i1 a ((its.toArray.size : Int) - 1 - (i : Nat)) := by rw [s1]; exact h1
    have g2 : IsRt s.heap i2 b ((its2.toArray.size : Int) - 1 - (i : Nat)) := by rw [s2]; exact h2
    refine wpAny_pyNext_zipD2_item D (draws_rt hh i1 a n1 its.toArray (by rw [s1, ← lx]; exact z1)) (draws_rt hh i2 b n2 its2.toArray (by rw [s2, ← ly]; exact z2)) hz hTI hTO ⟨by omega, g1, p⟩ ⟨by omega, g2, p2⟩ (by omega) (by omega) fun x1 x2 h' tk y1 y2 z' TO' st1 st2 hT hsz hk => ?_
    have y1 : x1 = u := by rw [s1] at y1; simp at y1; rw [hu] at y1; exact (Option.some.inj y1).symm
    have y2 : x2 = u2 := by rw [s2] at y2; simp at y2; rw [hu2] at y2; exact (Option.some.inj y2).symm
    subst y1 y2
    refine ⟨_, rfl, wpAny_letOwnedTupleGo_zip (s := { s with heap := h', toks := tk }) z' fun h'' z'' sb => ?_⟩
    have hT2 : h''.get? s.heap.objs.size = some { cls := .type "tuple", data := .seq #[x1, x2] } := (sb.2 _ (Nat.ne_of_gt hzl)).trans hT
    have new : ObjOk X.prog X.w (upd H s.heap.objs.size (.tup [x, y])) h'' s.heap.objs.size (.tup [x, y]) :=
      ⟨by show 2 ≤ sizeLine; decide, [x1, x2], .cons ru (.cons ru2 .nil), ⟨_, hT2, rfl, _, rfl⟩⟩
    have I1 : Inv X pins σ (upd H s.heap.objs.size (.tup [x, y])) { s with heap := h'', toks := tk } :=
      I.turnedNew (t' := tk) (ch := [z, TI, TO, i1, i2]) (fun c o hb q => (sb.2 c (fun q' => hb (by simp [q']))).trans (hk c o (fun q' => hb (by simp [q'])) (fun q' => hb (by simp [q'])) (fun q' => hb (by simp [q'])) (fun q' => hb (by simp [q'])) q)) hf (Nat.le_refl _) new
    have q1 := st1.2.1
    have q2 := st2.2.1
    rw [s1] at q1
    rw [s2] at q2
    refine ⟨.ref s.heap.objs.size, _, I1, rfl, ⟨_, x, y, rfl, I.hok.fresh (Nat.le_refl _), rfl, fun l hl => by rw [I.tuple_inj hl hqx]; exact hx, fun l hl => by rw [I.tuple_inj hl hqy]; exact hy⟩, ⟨z'', ?_, ⟨x1, x2, ?_⟩, ?_, ?_⟩, fun c hcm => ?_⟩
    · exact (sb.2 _ D.TIz).trans (hk _ _ D.TIz D.TITO D.TIi1 D.TIi2 hTI)
    · exact (sb.2 _ D.TOz).trans TO'
    · exact q1.at fun o q => (sb.2 _ D.zi1.symm).trans q
    · exact q2.at fun o q => (sb.2 _ D.zi2.symm).trans q
    · have hlt : c < s.heap.objs.size := by
        have e' : c = z ∨ c = TI ∨ c = TO ∨ c = i1 ∨ c = i2 := by simpa using hcm
        rcases e' with q | q | q | q | q
        · rw [q]; exact hzl
        · rw [q]; exact Heap.lt_size hTI
        · rw [q]; exact Heap.lt_size hTO
        · rw [q]; obtain ⟨_, e1, _⟩ := h1; exact Heap.lt_size e1
        · rw [q]; obtain ⟨_, e2, _⟩ := h2; exact Heap.lt_size e2
      rw [upd_ne (Nat.ne_of_lt hlt)]
      exact (hf c hcm).1
  done := by
    intro X hP hw hK hc i pins s σ H E I hf st hg
    subst hP hw hK
    obtain ⟨hz, hTI, ⟨x0, y0, hTO⟩, h1, h2⟩ := st
    obtain ⟨hn, hm, hend, xs, ys, hqx, lx, hqy, ly⟩ := hg
    obtain ⟨its, rv, p, z1⟩ := I.tuple hqx
    obtain ⟨its2, rv2, p2, z2⟩ := I.tuple hqy
    have l1 := rv.length
    have l2 := rv2.length
    have hh : X.A.in1.handled = none := I.ok.hd hc
    have n1 : a ≠ i1 := fun e => by
      obtain ⟨o, ho, c1, _⟩ := h1
      obtain ⟨o', ho', c2, _⟩ := p
      rw [e, ho] at ho'
      cases ho'
      rw [c1] at c2
      simp at c2
    have n2 : b ≠ i2 := fun e => by
      obtain ⟨o, ho, c1, _⟩ := h2
      obtain ⟨o', ho', c2, _⟩ := p2
      rw [e, ho] at ho'
      cases ho'
      rw [c1] at c2
      simp at c2
    have s1 : its.toArray.size = n := by rw [List.size_toArray, ← l1, lx]
    have s2 : its2.toArray.size = m := by rw [List.size_toArray, ← l2, ly]
    have g1 : IsRt s.heap i1 a ((its.toArray.size : Int) - 1 - (i : Nat)) := by rw [s1]; exact h1
    have g2 : IsRt s.heap i2 b ((its2.toArray.size : Int) - 1 - (i : Nat)) := by rw [s2]; exact h2
    exact wpAny_pyNext_zipD2_end D (draws_rt hh i1 a n1 its.toArray (by rw [s1, ← lx]; exact z1)) (draws_rt hh i2 b n2 its2.toArray (by rw [s2, ← ly]; exact z2)) hz hTI hTO ⟨by omega, g1, p⟩ ⟨by omega, g2, p2⟩ (by omega) (by omega) (by omega) fun h' tk hk => ⟨rfl, I.turnedL (t' := tk) (ch := [z, TI, TO, i1, i2]) (fun c o hb q =>
      hk c o (fun q' => hb (by simp [q'])) (fun q' => hb (by simp [q'])) (fun q' => hb (by simp [q'])) (fun q' => hb (by simp [q'])) q) hf⟩
  self := fun A i s Q E st h => wpAny_pyIter_zip st.1 h
theorem not2 {x y z : Nat} (h1 : x ≠ y) (h2 : x ≠ z) : x ∉ [y, z] := by simp [h1, h2]
theorem sep_r {N1 N2 a b : Nat} (l1 : N1 < N2) (la : a < N2) (lb : b < N2) (nb : b ≠ N1) : ZipSep2 (N2 + 1 + 2) (N2 + 1) (N2 + 1 + 1) N1 N2 [N1, a] [N2, b] :=
  { TIz := show (N2 + 1 : Nat) ≠ N2 + 1 + 2 by omega, TOz := show (N2 + 1 + 1 : Nat) ≠ N2 + 1 + 2 by omega, TITO := show (N2 + 1 : Nat) ≠ N2 + 1 + 1 by omega,
    TIi1 := show (N2 + 1 : Nat) ≠ N1 by omega, mem1 := List.mem_cons_self .., zf1 := not2 (by omega) (by omega), Tf1 := not2 (by omega) (by omega),
    TIi2 := show (N2 + 1 : Nat) ≠ N2 by omega, mem2 := List.mem_cons_self .., zf2 := not2 (by omega) (by omega), Tf2 := not2 (by omega) (by omega),
    sep1_2 := not2 (by omega) (Ne.symm nb), sep2_1 := not2 (by omega) (by omega) }
def iZipr (K : PySem.W.Frag) (ta tb : TE) : TI := fun σ H R => ta σ H fun v H1 => ∃ a xs, v = .ref a ∧ SqT K H1 a xs ∧ tb σ H1 fun u H2 => ∃ b xs2 ys, u = .ref b ∧ SqT K H2 a xs2 ∧ SqT K H2 b ys ∧ R (ItR K a b xs.length ys.length) H2
theorem pi_zipr {X : Cx} {e e2 : Expr} {ta tb : TE} {p p1 p2 pos q1 q2 tpos : Pos} {elts : List Expr} {kk : Nat} (hg : Gl X "zip") (hm : X.mg "zip" = none) (hg1 : Gl X "reversed") (hm1 : X.mg "reversed" = none) (ha : PE X e ta) (hb : PE X e2 tb)
    (hs1 : starEach [e] X.env = (false, eval e X.env) :: starEach [] X.env) (hs2 : starEach [e2] X.env = (false, eval e2 X.env) :: starEach [] X.env) :
    PI X (.Tuple elts kk tpos) (.Call (.Name "zip" p) [.Call (.Name "reversed" p1) [e] [] q1, .Call (.Name "reversed" p2) [e2] [] q2] [] pos) (iZipr X.K ta tb) := by
  refine ⟨fun pins s σ H R I h => ?_⟩
  refine Call_ (ld_blt I hg hm PyProof.Rows.boot_zip (PyProof.Rows.callWith_type1 (args_cons (Call_ (ld_blt I hg1 hm1 PyProof.Rows.boot_reversed (PyProof.Rows.callWith_type1 (args_cons (thn (ha.run pins s σ H _ I h) fun v s1 ⟨x, H1, I1, r1, c1⟩ => args_nil ?_) hs1) hs1 rfl))) rfl) rfl rfl))
  obtain ⟨a, xs, ev, hqx, c1⟩ := c1
  subst ev
  obtain rfl : v = Value.ref a := r1
  obtain ⟨its, rv, p', z1⟩ := I1.tuple hqx
  have l1 := rv.length
  have hn := line63
  have e1 : ((its.toArray.size : Nat) : Int) - 1 = (xs.length : Int) - 1 - ((0 : Nat) : Int) := by simp only [List.size_toArray]; omega
  refine call_reversed_tup p' (fun A E Q k => len_tuple p' (by simp only [List.size_toArray] <;> omega) k) ?_
  have k1 : ∀ b o, s1.heap.get? b = some o → (s1.heap.push (rtObj a ((its.toArray.size : Int) - 1))).get? b = some o := fun b o e => Heap.get?_push_of_some _ e
  have I2 : Inv X pins σ H1 { s1 with heap := s1.heap.push (rtObj a ((its.toArray.size : Int) - 1)), toks := s1.toks + 1 + 1 } := I1.kept (t' := s1.toks + 1 + 1) k1
  have f1 : FpOk X pins H1 s1.heap.objs.size := I1.fpOk (Nat.le_refl _) (I1.hok.fresh (Nat.le_refl _))
  have g1 : (s1.heap.push (rtObj a ((its.toArray.size : Int) - 1))).get? s1.heap.objs.size = some (rtObj a ((its.toArray.size : Int) - 1)) := Heap.get?_push_size _ rfl
  have I3 : Inv X ((s1.heap.objs.size, rtObj a ((its.toArray.size : Int) - 1)) :: pins) σ H1 { s1 with heap := s1.heap.push (rtObj a ((its.toArray.size : Int) - 1)), toks := s1.toks + 1 + 1 } := I2.pins_of fun q hq => by
    rcases List.mem_cons.mp hq with rfl | hq
    · exact ⟨g1, f1.1, f1.2.1, f1.2.2.1, fun v z => nomatch z⟩
    · exact I2.pin q (List.mem_append_right _ hq)
  refine args_cons (Call_ (ld_blt I3 hg1 hm1 PyProof.Rows.boot_reversed (PyProof.Rows.callWith_type1 (args_cons (thn (hb.run _ _ σ H1 _ I3 c1) fun u s2 ⟨y, H2, I4, r2, c2⟩ => args_nil ?_) hs2) hs2 rfl))) rfl
  obtain ⟨b, xs2, ys, eu, hqx2, hqy, c2⟩ := c2
  subst eu
  obtain rfl : u = Value.ref b := r2
  obtain ⟨its', rv', pp, _⟩ := I4.tuple hqx2
  obtain ⟨its2, rv2, p2', z2⟩ := I4.tuple hqy
  have l2 := rv2.length
  have e2' : ((its2.toArray.size : Nat) : Int) - 1 = (ys.length : Int) - 1 - ((0 : Nat) : Int) := by simp only [List.size_toArray]; omega
  refine call_reversed_tup p2' (fun A E Q k => len_tuple p2' (by simp only [List.size_toArray] <;> omega) k) (args_nil ?_)
  have pin1 := I4.pin _ (List.mem_append_right _ List.mem_cons_self)
  have k2 : ∀ c o, s2.heap.get? c = some o → (s2.heap.push (rtObj b ((its2.toArray.size : Int) - 1))).get? c = some o := fun b o e => Heap.get?_push_of_some _ e
  have I5 : Inv X pins σ H2 { s2 with heap := s2.heap.push (rtObj b ((its2.toArray.size : Int) - 1)), toks := s2.toks + 1 + 1 } := (I4.kept (t' := s2.toks + 1 + 1) k2).pins_of fun r hr => (I4.kept (t' := s2.toks + 1 + 1) k2).pin r (List.mem_append_right _ (List.mem_cons_of_mem _ hr))
  have I6 : Inv X pins σ H2 s2 := I4.pins_of fun r hr => I4.pin r (List.mem_append_right _ (List.mem_cons_of_mem _ hr))
  have t1 : IsRt (s2.heap.push (rtObj b ((its2.toArray.size : Int) - 1))) s1.heap.objs.size a ((xs.length : Int) - 1 - ((0 : Nat) : Int)) := by
    rw [← e1]
    exact ⟨_, k2 _ _ pin1.1, rfl, rfl⟩
  have t2 : IsRt (s2.heap.push (rtObj b ((its2.toArray.size : Int) - 1))) s2.heap.objs.size b ((ys.length : Int) - 1 - ((0 : Nat) : Int)) := by
    rw [← e2']
    exact ⟨_, Heap.get?_push_size _ rfl, rfl, rfl⟩
  refine zip_beginsR (s := { s2 with heap := s2.heap.push (rtObj b ((its2.toArray.size : Int) - 1)), toks := s2.toks + 1 + 1 }) t1 t2 fun h' hz hTI hTO hk => wpAny_pyIter_zip hz ?_
  have I7 : Inv X pins σ H2 { s2 with heap := h', toks := s2.toks + 1 + 1 } := I5.kept (t' := s2.toks + 1 + 1) hk
  have hsz : (s2.heap.push (rtObj b ((its2.toArray.size : Int) - 1))).objs.size = s2.heap.objs.size + 1 := by rw [Heap.size_push]
  have hS : ({ s2 with heap := s2.heap.push (rtObj b ((its2.toArray.size : Int) - 1)), toks := s2.toks + 1 + 1 } : Shared).heap.objs.size = s2.heap.objs.size + 1 := hsz
  rw [hS] at hz hTI hTO ⊢
  have lt1 : s1.heap.objs.size < s2.heap.objs.size := Heap.lt_size pin1.1
  have la : a < s2.heap.objs.size := let ⟨_, e, _⟩ := pp; Heap.lt_size e
  have lb : b < s2.heap.objs.size := let ⟨_, e, _⟩ := p2'; Heap.lt_size e
  have na : a ≠ s1.heap.objs.size := fun e => by
    obtain ⟨o, ho, _⟩ := p'
    exact absurd (Heap.lt_size ho) (by rw [e]; exact Nat.lt_irrefl _)
  have nb : b ≠ s1.heap.objs.size := fun e => by
    obtain ⟨o, ho, c, _⟩ := p2'
    rw [e, pin1.1] at ho
    cases ho
    simp [rtObj] at c
  have F1 : FpOk X pins H2 s1.heap.objs.size := ⟨pin1.2.1, f1.2⟩
  have fr : ∀ c, s2.heap.objs.size ≤ c → FpOk X pins H2 c := fun c hle => I6.fpOk hle (I6.hok.fresh hle)
  have fresh5 : ∀ c, c ∈ [s2.heap.objs.size + 1 + 2, s2.heap.objs.size + 1, s2.heap.objs.size + 1 + 1, s1.heap.objs.size, s2.heap.objs.size] → FpOk X pins H2 c := fun c hcm => by
    have e' : c = s2.heap.objs.size + 1 + 2 ∨ c = s2.heap.objs.size + 1 ∨ c = s2.heap.objs.size + 1 + 1 ∨ c = s1.heap.objs.size ∨ c = s2.heap.objs.size := by simpa using hcm
    rcases e' with z | z | z | z | z
    · rw [z]; exact fr _ (by omega)
    · rw [z]; exact fr _ (by omega)
    · rw [z]; exact fr _ (by omega)
    · rw [z]; exact F1
    · rw [z]; exact fr _ (Nat.le_refl _)
  have D : ZipSep2 (s2.heap.objs.size + 1 + 2) (s2.heap.objs.size + 1) (s2.heap.objs.size + 1 + 1) s1.heap.objs.size s2.heap.objs.size [s1.heap.objs.size, a] [s2.heap.objs.size, b] := sep_r lt1 la lb nb
  exact ⟨s2.heap.objs.size + 1 + 2, [s2.heap.objs.size + 1 + 2, s2.heap.objs.size + 1, s2.heap.objs.size + 1 + 1, s1.heap.objs.size, s2.heap.objs.size], _, _, H2, rfl, I7, turn_zipr (n := xs.length) (m := ys.length) D, ⟨hz, hTI, ⟨_, _, hTO⟩, t1.at fun o e => hk _ o e, t2.at fun o e => hk _ o e⟩, fresh5, c2⟩
end EV

set_option maxRecDepth 100000
set_option maxHeartbeats 2000000
/-! l.index(x, start) -/
namespace EV
open PySem PySem.Spec PyProof.Rows L2 SeqAt
theorem plain_ixl : plainId "list.index.loop" = true := by decide +kernel
theorem entry_ixl : entryFor table "list.index.loop" = some Builtin.«list.index.loop» := entryFor_of_tree (by kernel_rfl)
theorem list_indexFrom (l : Addr) (items : Array Value) (n : Nat) (dd : Option Addr) (sl : Array (Option Value)) (x : Value) (e : Value → Bool) (a : Nat) (t : Tok) (j : Nat) (hj : j < items.size) (hsmall : (j : Int) < 2 ^ 63 - 1) (haj : a ≤ j)
    (hit : e items[j] = true) (hno : ∀ m (hm : m < items.size), a ≤ m → m < j → e items[m] = false) :
    Meets (Builtin.«list.index» ⟨[.ref l, x, .int (a : Nat) t], []⟩)
      (fun A R s => s.heap.get? l = some { cls := .type "list", dict := dd, data := .seq items n, slots := sl } ∧ (∀ y, y ∈ items → EqAt A.in1 s y x (e y)) ∧ R (.ok (.ret (.int j s.toks))) { s with toks := s.toks + 1 }) := by
  intro prog w A R s h
  obtain ⟨hp, g, d, tk, os⟩ := s; obtain ⟨hl, he, h⟩ := h
  have hT : (⟨hp, g, d, tk, os⟩ : Shared).TypeIs (.int (a : Nat) t) "int" := typeIs_int _ _ _
  wp_walk using wpAny_loadPart' hl, wpAny_specialOf hT F.slot_int_index.lookup
  have a1 : ((fun i : Int => if i < 0 then max 0 (i + (items.size : Int)) else i) ((some ((a : Nat) : Int)).getD 0)) = ((a : Nat) : Int) := by
    show (if ((a : Nat) : Int) < 0 then _ else _) = _
    rw [if_neg (by omega)]
    rfl
  have a2 : ((fun i : Int => if i < 0 then max 0 (i + (items.size : Int)) else i) ((none : Option Int).getD (2 ^ 63 - 1))) = 2 ^ 63 - 1 := by simp
  rw [a1, a2]
  exact ⟨plainId_quiet plain_ixl _, codeAny_builtin entry_ixl (by
    rw [Around.under_plainId plain_ixl _]
    exact index_loopAt l items n dd sl x e (2 ^ 63 - 1) j hj hsmall hit _ a rfl haj (fun m hm h1 h2 => hno m hm h1 h2) prog w A R _ ⟨hl, he, h⟩)⟩
section
variable {X : Cx}
/-- l.index(x, start): the first place of an equal one from there on -/
def rIndexF (K : PySem.W.Frag) : V → List V → Hp → VK → Prop := fun x xs H Q => ∃ (a : Addr) (y : V) (d : PyData) (ds : List PyData) (b j : Nat) (z : PyData), x = V.ref a ∧ xs = [y, .int (b : Nat)] ∧ Dp K H (V.ref a) (.list ds) ∧ Dp K H y d ∧
  SeqAt.shaped (.list ds) = true ∧ SeqAt.shaped d = true ∧ b ≤ j ∧ ds[j]? = some z ∧ PyData.eqv z d = true ∧ (∀ (m : Nat) (z' : PyData), b ≤ m → m < j → ds[m]? = some z' → PyData.eqv z' d = false) ∧ Q (.int (j : Nat)) H
theorem mt_indexF (hu : X.A.units + 65 < cLine) : MtR X "list.index" (rIndexF X.K) := by
  intro pins s σ H x xs v us Q I rx rxs h
  obtain ⟨a, y, d, ds, b, j, z, rfl, rfl, hl, hy, sl, sd, hbj, hz, hzj, hno, q⟩ := h
  cases rx
  cases rxs with
  | cons ry rt =>
    rename_i uy ut
    cases rt with
    | cons rb rt =>
      cases rt
      obtain ⟨tb, rfl⟩ := rb
      obtain ⟨bs, r1⟩ := Dp.reads I d y uy hy ry
      have hxs : PyData.canLayAll0 ds = true := SeqAt.canLay_of_shaped sl
      have hroom : X.A.units + 1 + min (PyData.depthAll ds) d.depth < cLine := room_in_shaped sd hu
      cases hl with
      | lst hs ha =>
        obtain ⟨its, rv, ⟨⟨cls, dd, data, sls⟩, n, ho, hc, hdn, hdt⟩, hlen⟩ := I.list hs
        simp only at hc hdt
        subst hc hdt
        obtain ⟨as, h4⟩ := Dp.readsAll I ds _ its ha rv
        have hn : its.length = ds.length := SeqAt.ReadsAll.length ds its as h4
        have hmap : its.map (SeqAt.readOf s.heap) = ds := SeqAt.readsAll_map ds its as hxs h4
        have hvl := rv.length
        have hsl := sizeLine_eq
        obtain ⟨hjd, _⟩ := List.getElem?_eq_some_iff.mp hz
        have hjl : j < its.length := by omega
        have hj : j < its.toArray.size := by simpa using hjl
        have at_ : ∀ (m : Nat) (hm : m < its.toArray.size) (z' : PyData), ds[m]? = some z' → SeqAt.readOf s.heap its.toArray[m] = z' := by
          intro m hm z' hz'
          have hml : m < its.length := by simpa using hm
          rw [← hmap, List.getElem?_map, List.getElem?_eq_getElem hml] at hz'
          have e1 : SeqAt.readOf s.heap its[m] = z' := Option.some.inj (show some (SeqAt.readOf s.heap its[m]) = some z' from hz')
          simpa using e1
        refine call_meets PySem.F.slot_list_index ⟨_, ho, rfl⟩ PySem.F.entry_list_index (PySem.F.args_list_index_3 _ _ _)
          (list_indexFrom a its.toArray n dd sls uy (fun u => PyData.eqv (SeqAt.readOf s.heap u) d) b tb j hj (by omega) hbj ?_ ?_) ⟨ho, SeqAt.items_eqAt (vs := its.toArray) (show ReadsAll s.heap its.toArray.toList ds as from h4) r1 hxs (SeqAt.canLay_of_shaped sd) hroom, ?_⟩
        · show PyData.eqv (SeqAt.readOf s.heap its.toArray[j]) d = true
          rw [at_ j hj z hz]
          exact hzj
        · intro m hm hbm hmj
          have hmd : m < ds.length := by omega
          have hz' : ds[m]? = some ds[m] := List.getElem?_eq_getElem hmd
          show PyData.eqv (SeqAt.readOf s.heap its.toArray[m]) d = false
          rw [at_ m hm _ hz']
          exact hno m _ hbm hmj hz'
        · exact ⟨.int (j : Nat), H, I.tok _, ⟨_, rfl⟩, q⟩
end
/-! ### len(set(x)), x a list of ints -/
section
open RZ
variable {X : Cx}
def rLenSet (K : PySem.W.Frag) : V → Hp → VK → Prop := fun x H Q => ∃ (l : Addr) (ns : List Int), x = .ref l ∧ SqL K H l (ns.map V.int) ∧ ns.length ≤ 4000 ∧ Q (.int ((PyProof.Rows.firstMet (fun i => ns.getD i 0) ns.length).length : Nat)) H
theorem pe_lenSet {a : Expr} {ta : TE} {p p2 q pos : Pos} (hg : Gl X "len") (hm : X.mg "len" = none) (hg2 : Gl X "set") (hm2 : X.mg "set" = none) (ha : PE X a ta) (hc : X.calm = true)
    (na : starEach [a] X.env = (false, eval a X.env) :: starEach [] X.env) : PE X (.Call (.Name "len" p) [.Call (.Name "set" p2) [a] [] q] [] pos) (fun σ H Q => ta σ H fun x H1 => rLenSet X.K x H1 Q) := by
  refine ⟨fun pins s σ H Q I h => ?_⟩
  refine Call_ (ld_blt I hg hm boot_len ?_)
  refine PyProof.Rows.callWith_builtin1 (PyProof.Rows.args_cons ?_ rfl) rfl rfl
  refine Call_ (ld_blt I hg2 hm2 boot_set ?_)
  refine PyProof.Rows.callWith_type1 (PyProof.Rows.args_cons (thn (ha.run pins s σ H _ I h) fun v s1 ⟨x, H1, I1, r1, q1⟩ => PyProof.Rows.args_nil ?_) na) na rfl
  obtain ⟨l, ns, rfl, hq, hl, q1⟩ := q1
  cases r1
  obtain ⟨its, r, pl, hz⟩ := I1.list hq
  have hlen : its.toArray.size = ns.length := by rw [List.size_toArray, ← r.length, List.length_map]
  refine call_set_list (I1.ok.hd hc) pl.isList (by simpa using intsAre_vals r) (by rw [hlen]; unfold scanBound; omega) fun h' tk hS hk => ?_
  refine PyProof.Rows.args_nil ?_
  rw [hlen] at hS
  have hle := PyProof.Rows.firstMet_length_le (fun i => ns.getD i 0) ns.length
  obtain ⟨o, es, ep, t, ho, hex, hd, _, _, _, hf, hn⟩ := hS
  have I2 : Inv X pins σ H1 { s1 with heap := h', toks := tk } := I1.kept fun b o e => hk b o (Heap.lt_size e) e
  exact call_len_set ho hex hd hf (by rw [hn] <;> omega) ⟨.int ((PyProof.Rows.firstMet (fun i => ns.getD i 0) ns.length).length : Nat), H1, I2.tok _, ⟨_, by rw [hn]⟩, q1⟩
end
end EV

set_option maxRecDepth 100000
set_option maxHeartbeats 2000000
/-! list(zip(a, b)) of two lists -/
namespace EV
open PySem PySem.Spec PyProof.Rows L2
section
variable {prog : Program} {w : World} {A : Around} {E : Value → Shared → Prop} {s : Shared} {z TI TO i1 i2 l1 l2 S : Addr} {xs ys : Array Value}
/-- a zip of two lists after i turns, its last tuple kept in a list -/
def ZSt (z TI TO i1 i2 l1 l2 S : Addr) (xs ys : Array Value) (i : Nat) (h : Heap) : Prop :=
  IsPair h TI (.ref i1) (.ref i2) ∧ h.IsListIter i1 l1 i ∧ h.IsListIter i2 l2 i ∧ h.IsList l1 xs ∧ h.IsList l2 ys ∧
    ((IsZip h z TI TO .none ∧ ∃ a b, IsPair h TO a b) ∨ ∃ T f oT, IsZipHeld h z TI TO T f ∧ h.get? T = some oT ∧ T ≠ z ∧ T ≠ i1 ∧ T ≠ i2 ∧ T ≠ S)
theorem zst_upd {i : Nat} {h h' : Heap} (st : ZSt z TI TO i1 i2 l1 l2 S xs ys i h) (k : ∀ b o, b ≠ S → h.get? b = some o → h'.get? b = some o) (hS : S ≠ z ∧ S ≠ TI ∧ S ≠ TO ∧ S ≠ i1 ∧ S ≠ i2 ∧ S ≠ l1 ∧ S ≠ l2) : ZSt z TI TO i1 i2 l1 l2 S xs ys i h' := by
  obtain ⟨a1, a2, a3, a4, a5, a6⟩ := st
  obtain ⟨s1, s2, s3, s4, s5, s6, s7⟩ := hS
  refine ⟨k _ _ s2.symm a1, a2.at fun o e => k _ o s4.symm e, a3.at fun o e => k _ o s5.symm e, a4.at fun o e => k _ o s6.symm e, a5.at fun o e => k _ o s7.symm e, ?_⟩
  rcases a6 with ⟨b1, a, b, b2⟩ | ⟨T, f, oT, b1, b2, b3, b4, b5, b6⟩
  · exact .inl ⟨k _ _ s1.symm b1, a, b, k _ _ s3.symm b2⟩
  · exact .inr ⟨T, f, oT, k _ _ s1.symm b1, k _ _ b6 b2, b3, b4, b5, b6⟩
theorem zst_item {i : Nat} {x y : Value} {Q : Option Value → Shared → Prop} (D : ZipApart z TI TO i1 i2 l1 l2) (st : ZSt z TI TO i1 i2 l1 l2 S xs ys i s.heap) (hSl : S < s.heap.objs.size) (hx : xs[i]? = some x) (hy : ys[i]? = some y)
    (hQ : ∀ h', ZSt z TI TO i1 i2 l1 l2 S xs ys (i + 1) h' → IsPair h' s.heap.objs.size x y → h'.objs.size = s.heap.objs.size + 1 → (∀ c o, c ≠ z → c ≠ TO → c ≠ i1 → c ≠ i2 → s.heap.get? c = some o → h'.get? c = some o) → Q (some (.ref s.heap.objs.size)) { s with heap := h' }) :
    wpAny (model prog w) A (pyNext (.ref z)) Q E s := by
  obtain ⟨a1, a2, a3, a4, a5, a6⟩ := st
  have g1 : s.heap.objs.size ≠ i1 := by obtain ⟨_, e, _⟩ := a2; exact Nat.ne_of_gt (Heap.lt_size e)
  have g2 : s.heap.objs.size ≠ i2 := by obtain ⟨_, e, _⟩ := a3; exact Nat.ne_of_gt (Heap.lt_size e)
  rcases a6 with ⟨b1, a, b, b2⟩ | ⟨T, f, oT, b1, b2, b3, b4, b5, b6⟩
  · have g3 : s.heap.objs.size ≠ z := Nat.ne_of_gt (Heap.lt_size b1)
    refine wpAny_pyNext_zip_item D b1 a1 b2 a2 a3 a4 a5 hx hy fun h' c1 c2 c3 c4 c5 c6 c7 => hQ h' ⟨c7 _ _ D.TIz D.TITO D.TIi1 D.TIi2 a1, c3, c4, a4.at fun o e => c7 _ o D.l1z D.l1TO D.l1i1 D.l1i2 e, a5.at fun o e => c7 _ o D.l2z D.l2TO D.l2i1 D.l2i2 e, .inr ⟨s.heap.objs.size, false, _, c1, c5, g3, g1, g2, Nat.ne_of_gt hSl⟩⟩ c5 c6 c7
  · refine wpAny_pyNext_zip_item_held D b1 b2 a1 a2 a3 a4 a5 hx hy fun h' c1 c3 c4 c5 c6 c7 => hQ h' ⟨c7 _ _ D.TIz D.TIi1 D.TIi2 a1, c3, c4, a4.at fun o e => c7 _ o D.l1z D.l1i1 D.l1i2 e, a5.at fun o e => c7 _ o D.l2z D.l2i1 D.l2i2 e, .inr ⟨T, true, oT, c1, c7 _ _ b3 b4 b5 b2, b3, b4, b5, b6⟩⟩ c5 c6 fun c o q1 _ q3 q4 e => c7 c o q1 q3 q4 e
theorem zst_end {i : Nat} {Q : Option Value → Shared → Prop} (hh : A.handled = none) (D : ZipApart z TI TO i1 i2 l1 l2) (st : ZSt z TI TO i1 i2 l1 l2 S xs ys i s.heap) (hend : xs[i]? = none ∨ ys[i]? = none)
    (hQ : ∀ h', (∀ c o, c ≠ z → c ≠ TO → c ≠ i1 → c ≠ i2 → s.heap.get? c = some o → h'.get? c = some o) → Q none { s with heap := h' }) :
    wpAny (model prog w) A (pyNext (.ref z)) Q E s := by
  obtain ⟨a1, a2, a3, a4, a5, a6⟩ := st
  rcases a6 with ⟨b1, a, b, b2⟩ | ⟨T, f, oT, b1, b2, b3, b4, b5, b6⟩
  · exact wpAny_pyNext_zip_end hh D b1 a1 b2 a2 a3 a4 a5 hend hQ
  · exact wpAny_pyNext_zip_end_held hh D b1 b2 a1 a2 a3 a4 a5 hend fun h' c7 => hQ h' fun c o q1 _ q3 q4 e => c7 c o q1 q3 q4 e
/-- what the new pairs hold -/
def Prs (xs ys : Array Value) (base : Nat) (h : Heap) (ts : List Addr) : Prop :=
  ts.Pairwise (fun a b => (a : Nat) < b) ∧ ∀ (j : Nat) (T : Addr), ts[j]? = some T → base ≤ T ∧ ∃ x y, xs[j]? = some x ∧ ys[j]? = some y ∧ IsPair h T x y
theorem Prs.keep {base : Nat} {h h' : Heap} {ts : List Addr} (p : Prs xs ys base h ts) (k : ∀ b o, base ≤ b → h.get? b = some o → h'.get? b = some o) : Prs xs ys base h' ts :=
  ⟨p.1, fun j T e => let ⟨q, x, y, q1, q2, q3⟩ := p.2 j T e; ⟨q, x, y, q1, q2, k _ _ q q3⟩⟩
theorem Prs.lt {base : Nat} {h : Heap} {ts : List Addr} (p : Prs xs ys base h ts) {T : Addr} (hT : T ∈ ts) : T < h.objs.size := by
  obtain ⟨j, e⟩ := List.mem_iff_getElem?.mp hT
  obtain ⟨_, _, _, _, _, q⟩ := p.2 j T e
  exact Heap.lt_size q
theorem Prs.push {base N : Nat} {h h' : Heap} {ts : List Addr} {x y : Value} (p : Prs xs ys base h ts) (k : ∀ b o, base ≤ b → h.get? b = some o → h'.get? b = some o) (hN : h.objs.size = N) (hb : base ≤ N) (hx : xs[ts.length]? = some x) (hy : ys[ts.length]? = some y) (hp : IsPair h' N x y) : Prs xs ys base h' (ts ++ [N]) := by
  refine ⟨?_, fun j T e => ?_⟩
  · rw [List.pairwise_append]
    refine ⟨p.1, by simp, fun a ha b hb => ?_⟩
    have : b = N := by simpa using hb
    rw [this, ← hN]
    exact p.lt ha
  · by_cases c : j < ts.length
    · rw [List.getElem?_append_left c] at e
      exact (p.keep k).2 j T e
    · have hj : j < (ts ++ [N]).length := (List.getElem?_eq_some_iff.mp e).1
      have ej : j = ts.length := by simp at hj; omega
      subst ej
      simp at e
      subst e
      exact ⟨hb, x, y, hx, hy, hp⟩
theorem nb {base a b : Nat} (h : a < base) (q : base ≤ b) : b ≠ a := by omega
theorem lz_loop (hh : A.in1.handled = none) (D : ZipApart z TI TO i1 i2 l1 l2) (hS : S ≠ z ∧ S ≠ TI ∧ S ≠ TO ∧ S ≠ i1 ∧ S ≠ i2 ∧ S ≠ l1 ∧ S ≠ l2) (base : Nat) (hb : z < base ∧ TO < base ∧ i1 < base ∧ i2 < base ∧ S < base) {n : Nat} (hn : n = min xs.size ys.size) (hsz : n ≤ sizeLine) (res : Value) {R : Result → Shared → Prop} :
    ∀ (k i : Nat) (s : Shared) (ts : List Addr) (c : Nat), n - i = k → i ≤ n → ZSt z TI TO i1 i2 l1 l2 S xs ys i s.heap → s.heap.get? S = some { cls := .type "list", dict := none, data := .seq (ts.map Value.ref).toArray c, slots := #[] } → ts.length = i → base ≤ s.heap.objs.size → Prs xs ys base s.heap ts →
    (∀ h' ts' c', (∀ b o, b ≠ S → b ≠ z → b ≠ TO → b ≠ i1 → b ≠ i2 → s.heap.get? b = some o → h'.get? b = some o) → h'.get? S = some { cls := .type "list", dict := none, data := .seq (ts'.map Value.ref).toArray c', slots := #[] } → ts'.length = n → Prs xs ys base h' ts' → R (.ok (.ret res)) { s with heap := h' }) →
    codeAny (model prog w) A (.builtin "list.extend.loop" ⟨[.ref S, .ref z, res], []⟩) R s := by
  intro k
  induction k with
  | zero =>
    intro i s ts c hk hi hst hS0 hl hbs hp hR
    have hin : i = n := by omega
    refine codeAny_builtin F.entry_extend_loop ?_
    rw [Around.under_plainId F.plain_extend_loop _]
    show wpAny _ A.in1 (pyNext (.ref z) >>= _) _ _ s
    refine wpAny_bind (zst_end hh D hst (by
      rw [hin, hn]
      by_cases q : xs.size ≤ ys.size
      · left; simp; omega
      · right; simp; omega) fun h' hk' => ?_)
    obtain ⟨b1, b2, b3, b4, b5⟩ := hb
    refine wpAny_pure (hR h' ts c (fun b o _ q1 q2 q3 q4 e => hk' b o q1 q2 q3 q4 e) (hk' _ _ hS.1 hS.2.2.1 hS.2.2.2.1 hS.2.2.2.2.1 hS0) (by omega) (hp.keep fun b o q e => hk' b o (nb b1 q) (nb b2 q) (nb b3 q) (nb b4 q) e))
  | succ k ih =>
    intro i s ts c hk hi hst hS0 hl hbs hp hR
    have hlt : i < n := by omega
    have hx : xs[i]? = some xs[i] := by simp
    have hy : ys[i]? = some ys[i] := by simp
    refine codeAny_builtin F.entry_extend_loop ?_
    rw [Around.under_plainId F.plain_extend_loop _]
    show wpAny _ A.in1 (pyNext (.ref z) >>= _) _ _ s
    refine wpAny_bind (zst_item D hst (Heap.lt_size hS0) hx hy fun h1 st1 pr1 sz1 k1 => ?_)
    obtain ⟨b1, b2, b3, b4, b5⟩ := hb
    have hS1 := k1 _ _ hS.1 hS.2.2.1 hS.2.2.2.1 hS.2.2.2.2.1 hS0
    have kb : ∀ b o, base ≤ b → s.heap.get? b = some o → h1.get? b = some o := fun b o q e => k1 b o (nb b1 q) (nb b2 q) (nb b3 q) (nb b4 q) e
    show wpAny _ A.in1 (updateSeq S (·.push (Value.ref s.heap.objs.size)) >>= _) _ _ _
    refine wpAny_bind ?_
    have hsl : ((ts.map Value.ref).toArray).size = i := by simp [hl]
    have hS2 := Heap.get?_update_self (Obj.mapSeq (·.push (Value.ref s.heap.objs.size))) hS1 rfl
    have ku : ∀ b o, b ≠ S → h1.get? b = some o → (h1.update S (Obj.mapSeq (·.push (Value.ref s.heap.objs.size)))).get? b = some o := fun b o q e => (Heap.get?_update_other _ _ (fun h => q h.symm)).trans e
    have ku2 : ∀ b o, base ≤ b → h1.get? b = some o → (h1.update S (Obj.mapSeq (·.push (Value.ref s.heap.objs.size)))).get? b = some o := fun b o q e => ku b o (nb b5 q) e
    refine wpAny_updateSeq (s := { s with heap := h1 }) hS1 rfl (wpAny_pure ⟨plainId_quiet F.plain_extend_loop _, ih (i + 1) _ (ts ++ [s.heap.objs.size]) _ (by omega) hlt (zst_upd st1 ku hS) (by
      rw [hS2]
      simp [Obj.mapSeq]
      rfl) (by simp [hl]) ?_ ?_ fun h' ts' c' q1 q2 q3 q4 => ?_⟩) ?_ ?_
    · show base ≤ (h1.update S _).objs.size
      have : (h1.update S (Obj.mapSeq (·.push (Value.ref s.heap.objs.size)))).objs.size = h1.objs.size := (Heap.SameBut.update ..).1
      rw [this, sz1]
      omega
    · exact (hp.push (N := s.heap.objs.size) kb rfl hbs (by rw [hl]; exact hx) (by rw [hl]; exact hy) pr1).keep ku2
    · exact hR h' ts' c' (fun b o r0 r1 r2 r3 r4 e => q1 b o r0 r1 r2 r3 r4 (ku b o r0 (k1 b o r1 r2 r3 r4 e))) q2 q3 q4
    · rw [hsl]; omega
    · show ((ts.map Value.ref).toArray.push _).size ≤ sizeLine + 1
      rw [Array.size_push, hsl]; omega
end
theorem zip_no_len : typeLookup (.type "zip") "__len__" = pure none := by rw [typeLookup_type, builtinLookup_eq_fast]; kernel_rfl
theorem zip_no_hint : typeLookup (.type "zip") "__length_hint__" = pure none := by rw [typeLookup_type, builtinLookup_eq_fast]; kernel_rfl
section
variable {prog : Program} {w : World} {A : Around} {E : Value → Shared → Prop} {s : Shared} {z TI TO i1 i2 l1 l2 S : Addr} {xs ys : Array Value}
theorem ZSt.ty {i : Nat} (st : ZSt z TI TO i1 i2 l1 l2 S xs ys i s.heap) : s.TypeIs (.ref z) "zip" := by
  rcases st.2.2.2.2.2 with ⟨b1, _⟩ | ⟨T, f, oT, b1, _⟩
  · exact ⟨_, b1, rfl⟩
  · exact ⟨_, b1, rfl⟩
theorem lz_extend (hh : A.in1.handled = none) (D : ZipApart z TI TO i1 i2 l1 l2) (hS : S ≠ z ∧ S ≠ TI ∧ S ≠ TO ∧ S ≠ i1 ∧ S ≠ i2 ∧ S ≠ l1 ∧ S ≠ l2) (hb : z < s.heap.objs.size ∧ TO < s.heap.objs.size ∧ i1 < s.heap.objs.size ∧ i2 < s.heap.objs.size ∧ S < s.heap.objs.size) {n : Nat} (hn : n = min xs.size ys.size) (hsz : n ≤ sizeLine) (res : Value) (c₀ : Nat)
    (hz : IsZip s.heap z TI TO .none) (st : ZSt z TI TO i1 i2 l1 l2 S xs ys 0 s.heap) (hS0 : s.heap.get? S = some { cls := .type "list", data := .seq #[] c₀ }) {R : Result → Shared → Prop}
    (hR : ∀ h' ts' c', (∀ b o, b ≠ S → b ≠ z → b ≠ TO → b ≠ i1 → b ≠ i2 → s.heap.get? b = some o → h'.get? b = some o) → h'.get? S = some { cls := .type "list", dict := none, data := .seq (ts'.map Value.ref).toArray c', slots := #[] } → ts'.length = n → Prs xs ys s.heap.objs.size h' ts' → R (.ok (.ret res)) { s with heap := h' }) :
    wpAny (model prog w) A.in1 (Builtin.List.listExtendWith (.ref S) (.ref z) res)
      (fun fin s' => match fin with | .done f => R (.ok f) s' | .again c' => c'.quiet = true ∧ codeAny (model prog w) A c' R s') (fun e s' => R (.error e) s') s := by
  unfold Builtin.List.listExtendWith
  refine wpAny_bind (wpAny_typeOf (T := "zip") st.ty ?_)
  have h1 : Builtin.List.listSameRef (.ref S) (.ref z) = false := by simp [Builtin.List.listSameRef, hS.1]
  have h2 : (Value.type "zip" == Value.type "list") = false := by decide
  have h3 : (Value.type "zip" == Value.type "tuple") = false := by decide
  simp only [h1, h2, h3, Bool.or_false, Bool.false_eq_true, if_false]
  refine wpAny_bind (wpAny_pyIter_zip hz ?_)
  refine wpAny_bind (wpAny_holding ?_)
  unfold Builtin.List.listLengthHint
  refine wpAny_bind (wpAny_specialOf st.ty zip_no_len ?_)
  show wpAny _ A.in1 (specialOf (Value.ref z) (Str.ofString "__length_hint__") >>= _) _ _ _
  refine wpAny_bind (wpAny_specialOf st.ty zip_no_hint ?_)
  refine wpAny_pure ?_
  show wpAny _ A.in1 (rule "list.extend.makes-room" >>= fun _ => Builtin.List.listTouch (.ref S) >>= fun _ =>
    again (.builtin "list.extend.loop" ⟨[.ref S, .ref z, res], []⟩)) _ _ _
  refine wpAny_bind (wpAny_rule ?_)
  refine wpAny_bind ?_
  show wpAny _ A.in1 (updateSeq S (·.push .none) >>= fun _ => updateSeq S (·.pop)) _ _ _
  refine wpAny_bind (wpAny_updateSeq hS0 rfl ?_)
  have hS₂ := Heap.get?_update_self (Obj.mapSeq (·.push Value.none)) hS0 rfl
  refine wpAny_updateSeq (hz := by seq_fits) hS₂ rfl ?_
  have hS₃ := Heap.get?_update_self (Obj.mapSeq (·.pop)) hS₂ rfl
  have oth : ∀ b o, b ≠ S → s.heap.get? b = some o → ((s.heap.update S (Obj.mapSeq (·.push Value.none))).update S (Obj.mapSeq (·.pop))).get? b = some o :=
    fun b o hb e => (Heap.get?_update_other _ _ (Ne.symm hb)).trans ((Heap.get?_update_other _ _ (Ne.symm hb)).trans e)
  have sz : ((s.heap.update S (Obj.mapSeq (·.push Value.none))).update S (Obj.mapSeq (·.pop))).objs.size = s.heap.objs.size := ((Heap.SameBut.update ..).1).trans (Heap.SameBut.update ..).1
  refine wpAny_pure ⟨plainId_quiet F.plain_extend_loop _, lz_loop hh D hS s.heap.objs.size hb hn hsz res n 0 _ [] _ rfl (Nat.zero_le _) (zst_upd st oth hS) hS₃ rfl (by rw [show _ = s.heap.objs.size from sz]; exact Nat.le_refl _) ⟨List.Pairwise.nil, fun j T e => by simp at e⟩ fun h' ts' c' q1 q2 q3 q4 => ?_⟩
  exact hR h' ts' c' (fun b o r0 r1 r2 r3 r4 e => q1 b o r0 r1 r2 r3 r4 (oth b o r0 e)) q2 q3 q4
theorem lz_init (hh : A.in1.handled = none) (D : ZipApart z TI TO i1 i2 l1 l2) (hS : S ≠ z ∧ S ≠ TI ∧ S ≠ TO ∧ S ≠ i1 ∧ S ≠ i2 ∧ S ≠ l1 ∧ S ≠ l2) (hb : z < s.heap.objs.size ∧ TO < s.heap.objs.size ∧ i1 < s.heap.objs.size ∧ i2 < s.heap.objs.size ∧ S < s.heap.objs.size) {n : Nat} (hn : n = min xs.size ys.size) (hsz : n ≤ sizeLine)
    (hz : IsZip s.heap z TI TO .none) (st : ZSt z TI TO i1 i2 l1 l2 S xs ys 0 s.heap) (hS0 : s.heap.get? S = some { cls := .type "list", data := .seq #[] }) {R : Result → Shared → Prop}
    (hR : ∀ h' ts' c', (∀ b o, b ≠ S → b ≠ z → b ≠ TO → b ≠ i1 → b ≠ i2 → s.heap.get? b = some o → h'.get? b = some o) → h'.get? S = some { cls := .type "list", dict := none, data := .seq (ts'.map Value.ref).toArray c', slots := #[] } → ts'.length = n → Prs xs ys s.heap.objs.size h' ts' → R (.ok (.ret .none)) { s with heap := h' }) :
    wpAny (model prog w) A.in1 (Builtin.«list.__init__» ⟨[.ref S, .ref z], []⟩)
      (fun fin s' => match fin with | .done f => R (.ok f) s' | .again c' => c'.quiet = true ∧ codeAny (model prog w) A c' R s') (fun e s' => R (.error e) s') s := by
  show wpAny _ _ (do let old ← Builtin.List.listItems (.ref S); Builtin.List.listUpdate (.ref S) (fun _ => #[]); letGo old.toList.reverse; Builtin.List.listExtendWith (.ref S) (.ref z) .none) _ _ s
  refine wpAny_bind ?_
  unfold Builtin.List.listItems
  refine wpAny_bind (wpAny_seqItems hS0 rfl (wpAny_pure ?_))
  show wpAny _ _ (updateSeq S (fun _ => #[]) >>= fun _ => letGo (#[] : Array Value).toList.reverse >>= fun _ => Builtin.List.listExtendWith (.ref S) (.ref z) .none) _ _ s
  refine wpAny_bind (wpAny_updateSeq hS0 rfl ?_)
  have hS₂ := Heap.get?_update_self (Obj.mapSeq (fun _ => (#[] : Array Value))) hS0 rfl
  have oth : ∀ b o, b ≠ S → s.heap.get? b = some o → (s.heap.update S (Obj.mapSeq (fun _ => (#[] : Array Value)))).get? b = some o :=
    fun b o hb e => (Heap.get?_update_other _ _ (Ne.symm hb)).trans e
  have sz : (s.heap.update S (Obj.mapSeq (fun _ => (#[] : Array Value)))).objs.size = s.heap.objs.size := (Heap.SameBut.update ..).1
  refine wpAny_bind (wpAny_letGo ?_)
  refine lz_extend hh D hS (by rw [show _ = s.heap.objs.size from sz]; exact hb) hn hsz .none _ (oth _ _ hS.1.symm hz) (zst_upd st oth hS) hS₂ fun h' ts' c' q1 q2 q3 q4 => hR h' ts' c' (fun b o r0 r1 r2 r3 r4 e => q1 b o r0 r1 r2 r3 r4 (oth b o r0 e)) q2 q3 ?_
  rwa [show _ = s.heap.objs.size from sz] at q4
theorem call_list_zip {Q : Value → Shared → Prop} (hh : A.in1.handled = none) (D : ZipApart z TI TO i1 i2 l1 l2) {n : Nat} (hn : n = min xs.size ys.size) (hsz : n ≤ sizeLine)
    (hz : IsZip s.heap z TI TO .none) (hTI : IsPair s.heap TI (.ref i1) (.ref i2)) {a b : Value} (hTO : IsPair s.heap TO a b) (h1 : s.heap.IsListIter i1 l1 0) (h2 : s.heap.IsListIter i2 l2 0) (hl1 : s.heap.IsList l1 xs) (hl2 : s.heap.IsList l2 ys)
    (hQ : ∀ h' ts' c', (∀ b o, b ≠ z → b ≠ TO → b ≠ i1 → b ≠ i2 → s.heap.get? b = some o → h'.get? b = some o) → h'.get? s.heap.objs.size = some { cls := .type "list", dict := none, data := .seq (ts'.map Value.ref).toArray c', slots := #[] } → ts'.length = n → Prs xs ys (s.heap.objs.size + 1) h' ts' → Q (.ref s.heap.objs.size) { s with heap := h' }) :
    wpAny (model prog w) A (call (.type "list") [.ref z]) Q E s := by
  refine callType_codes (Q₁ := fun obj s₁ => obj = .ref s.heap.objs.size ∧ s₁ = { s with heap := s.heap.push { cls := .type "list", data := .seq #[] } }) F.called_list (F.typeCall_list_1 _) F.entry_list_init
    (code_list_new _ ⟨rfl, rfl⟩) fun obj s₁ h₁ => ?_
  obtain ⟨rfl, rfl⟩ := h₁
  have hS : (s.heap.push { cls := .type "list", data := .seq #[] }).get? s.heap.objs.size = some { cls := .type "list", data := .seq #[] } := Heap.get?_push_size _ rfl
  have kp : ∀ b o, s.heap.get? b = some o → (s.heap.push { cls := .type "list", data := .seq #[] }).get? b = some o := fun b o e => Heap.get?_push_of_some _ e
  have lz := Heap.lt_size hz
  have lTI := Heap.lt_size hTI
  have lTO := Heap.lt_size hTO
  have li1 : i1 < s.heap.objs.size := let ⟨_, e, _⟩ := h1; Heap.lt_size e
  have li2 : i2 < s.heap.objs.size := let ⟨_, e, _⟩ := h2; Heap.lt_size e
  have ll1 : l1 < s.heap.objs.size := let ⟨_, e, _⟩ := hl1; Heap.lt_size e
  have ll2 : l2 < s.heap.objs.size := let ⟨_, e, _⟩ := hl2; Heap.lt_size e
  have sz : (s.heap.push { cls := .type "list", data := .seq #[] }).objs.size = s.heap.objs.size + 1 := by rw [Heap.size_push]
  refine ⟨⟨_, hS, rfl⟩, F.args_list_init_2 _ _, lz_init (A := A.in1) hh D ⟨Nat.ne_of_gt lz, Nat.ne_of_gt lTI, Nat.ne_of_gt lTO, Nat.ne_of_gt li1, Nat.ne_of_gt li2, Nat.ne_of_gt ll1, Nat.ne_of_gt ll2⟩ (by
    rw [show _ = s.heap.objs.size + 1 from sz]
    exact ⟨Nat.lt_succ_of_lt lz, Nat.lt_succ_of_lt lTO, Nat.lt_succ_of_lt li1, Nat.lt_succ_of_lt li2, Nat.lt_succ_self _⟩) hn hsz (kp _ _ hz) ⟨kp _ _ hTI, h1.at fun o e => kp _ o e, h2.at fun o e => kp _ o e, hl1.at fun o e => kp _ o e, hl2.at fun o e => kp _ o e, .inl ⟨kp _ _ hz, a, b, kp _ _ hTO⟩⟩ hS fun h' ts' c' q1 q2 q3 q4 => ?_⟩
  rw [show _ = s.heap.objs.size + 1 from sz] at q4
  exact ⟨rfl, hQ h' ts' c' (fun b o r1 r2 r3 r4 e => q1 b o (Nat.ne_of_lt (Heap.lt_size e)) r1 r2 r3 r4 (kp b o e)) q2 q3 q4⟩
end
/-- pairs laid one by one -/
inductive Lay : Hp → List (V × V) → List Addr → Hp → Prop
  | nil {H : Hp} : Lay H [] [] H
  | cons {H H' : Hp} {p : V × V} {ps : List (V × V)} {T : Addr} {ts : List Addr} : H T = none → Lay (upd H T (.tup [p.1, p.2])) ps ts H' → Lay H (p :: ps) (T :: ts) H'
theorem mk_lay {P : Program} {w : World} {h' : Heap} : ∀ (ts : List Addr) (ps : List (V × V)) (H : Hp), (ts.Pairwise fun a b => (a : Nat) < b) → (∀ T ∈ ts, H T = none) → HOk P w H h' → ts.length = ps.length →
    (∀ (j : Nat) (T : Addr) (p : V × V), ts[j]? = some T → ps[j]? = some p → ∃ u v, RelV p.1 u ∧ RelV p.2 v ∧ IsPair h' T u v) → ∃ H', Lay H ps ts H' ∧ HOk P w H' h' ∧ ∀ b, b ∉ ts → H' b = H b
  | [], [], H, _, _, ok, _, _ => ⟨H, .nil, ok, fun _ _ => rfl⟩
  | [], _ :: _, _, _, _, _, h, _ => by simp at h
  | _ :: _, [], _, _, _, _, h, _ => by simp at h
  | T :: ts, p :: ps, H, hp, hn, ok, hl, hr => by
    rw [List.pairwise_cons] at hp
    obtain ⟨u, v, ru, rv, hT⟩ := hr 0 T p rfl rfl
    have nT := hn T (List.mem_cons_self ..)
    have ok1 : HOk P w (upd H T (.tup [p.1, p.2])) h' := ok.laidN (fun _ _ e => e) nT ⟨by show 2 ≤ sizeLine; decide, [u, v], .cons ru (.cons rv .nil), ⟨_, hT, rfl, _, rfl⟩⟩
    obtain ⟨H', l, ok', k⟩ := mk_lay ts ps (upd H T (.tup [p.1, p.2])) hp.2 (fun T' hT' => by
      have : T' ≠ T := Nat.ne_of_gt (hp.1 T' hT')
      rw [upd_ne this]
      exact hn T' (List.mem_cons_of_mem _ hT')) ok1 (by simpa using hl) fun j T' p' e1 e2 => hr (j + 1) T' p' (by simpa using e1) (by simpa using e2)
    refine ⟨H', .cons nT l, ok', fun b hb => ?_⟩
    have b1 : b ≠ T := fun e => hb (e ▸ List.mem_cons_self ..)
    rw [k b fun q => hb (List.mem_cons_of_mem _ q), upd_ne b1]
section
variable {X : Cx}
theorem inv_big {pins : List (Addr × Obj)} {σ : L2.St} {H H' : Hp} {s : Shared} {h' : Heap} {t' : Nat} (I : Inv X pins σ H s) (k : ∀ b o, s.heap.get? b = some o → h'.get? b = some o) (hH : ∀ b, b < s.heap.objs.size → H' b = H b) (hok : HOk X.prog X.w H' h') : Inv X pins σ H' { s with heap := h', toks := t' } :=
  I.un (t' := t') ⟨fun b u q _ _ _ => k b u q, fun b u q _ _ _ => ⟨u.slots, k b u q⟩, fun b u q n _ => by rw [hH b (Heap.lt_size q)]; exact n, fun b u q _ => ⟨u, k b u q⟩,
    fun b xs q => by rw [hH b (I.hok b _ q).lt]; exact q, fun b u xs q => by rw [hH b (I.hok b _ q).lt]; exact q, fun b ps q => ⟨#[], by rw [hH b (I.hok b _ q).lt, q]; simp⟩⟩ hok
theorem vals_refs : ∀ ts : List Addr, Vals (ts.map V.ref) (ts.map Value.ref)
  | [] => .nil
  | T :: ts => .cons rfl (vals_refs ts)
def rLz (K : PySem.W.Frag) : List V → Hp → VK → Prop := fun vs H Q => ∃ (a b : Addr) (xs ys : List V), vs = [.ref a, .ref b] ∧ SqL K H a xs ∧ SqL K H b ys ∧ ∀ ts H' p, Lay H (xs.zip ys) ts H' → H' p = none → Q (.ref p) (upd H' p (.lst (ts.map V.ref)))
theorem pe_listZip {e e2 : Expr} {ta : TA} {p p1 pos pos1 : Pos} (hc : X.calm = true) (hg0 : Gl X "list") (hm0 : X.mg "list" = none) (hg : Gl X "zip") (hm : X.mg "zip" = none) (ha : PA X [e, e2] ta)
    (hs : starEach [e, e2] X.env = (false, eval e X.env) :: starEach [e2] X.env) (hpl : (backTo pos (starEach [e2] X.env)).any (·.1) = false) : PE X (.Call (.Name "list" p1) [.Call (.Name "zip" p) [e, e2] [] pos] [] pos1) (fun σ H Q => ta σ H fun vs H1 => rLz X.K vs H1 Q) := by
  refine ⟨fun pins s σ H Q I h => ?_⟩
  refine Call_ (ld_blt I hg0 hm0 boot_list (PyProof.Rows.callWith_type1 (args_cons (Call_ (ld_blt I hg hm PyProof.Rows.boot_zip (PyProof.Rows.callWith_type1 (thn (ha.run pos pins s σ H _ I h) fun us s1 ⟨vs, H1, I1, r1, q1⟩ => ?_) hs hpl))) rfl) rfl))
  obtain ⟨a, b, xs, ys, ex, hqx, hqy, q⟩ := q1
  subst ex
  cases r1 with
  | cons r rr =>
    cases rr with
    | cons r' rr =>
      cases rr
      cases r
      cases r'
      obtain ⟨its, rv, p1', z1⟩ := I1.list hqx
      obtain ⟨its2, rv2, p2', z2⟩ := I1.list hqy
      have le1 := rv.length
      have le2 := rv2.length
      refine call_zip_2 p1'.isList p2'.isList fun h1 hz hTI hTO t1 t2 hsz hk => args_nil ?_
      have D := PySem.W.ktu_apart s1.heap.objs.size a b p1'.lt p2'.lt
      refine call_list_zip (s := { s1 with heap := h1 }) (I1.ok.hd hc) D (n := min its.toArray.size its2.toArray.size) rfl (by simp only [List.size_toArray]; omega) hz hTI hTO t1 t2 (p1'.isList.at fun o e => hk _ o e) (p2'.isList.at fun o e => hk _ o e) fun h' ts c' k2 hS hl hp => ?_
      have hS0 : ({ s1 with heap := h1 } : Shared).heap.objs.size = h1.objs.size := rfl
      rw [hS0] at hS hp ⊢
      have kk : ∀ b o, s1.heap.get? b = some o → h'.get? b = some o := fun b o e => by
        have lt := Heap.lt_size e
        exact k2 b o (Nat.ne_of_lt (Nat.lt_add_right 4 lt)) (Nat.ne_of_lt (Nat.lt_add_right 3 lt)) (Nat.ne_of_lt lt) (Nat.ne_of_lt (Nat.lt_add_right 1 lt)) (hk b o e)
      have hge : ∀ T ∈ ts, h1.objs.size + 1 ≤ T := fun T hT => by
        obtain ⟨j, ej⟩ := List.mem_iff_getElem?.mp hT
        exact (hp.2 j T ej).1
      have h15 : h1.objs.size = s1.heap.objs.size + 5 := hsz
      have fresh : ∀ T, s1.heap.objs.size ≤ T → H1 T = none := fun T hT => I1.hok.fresh hT
      obtain ⟨H2, lay, ok2, kH⟩ := mk_lay (P := X.prog) (w := X.w) (h' := h') ts (xs.zip ys) H1 hp.1 (fun T hT => fresh T (Nat.le_trans (Nat.le_trans (by rw [h15]; exact Nat.le_add_right _ _) (Nat.le_succ h1.objs.size)) (hge T hT))) (I1.hok.kept kk) (by
        rw [hl, List.length_zip]; simp only [List.size_toArray]; omega) fun j T pr e1 e2 => by
          obtain ⟨_, u, v, hu, hv, hT⟩ := hp.2 j T e1
          obtain ⟨x1, x2⟩ := List.getElem?_zip_eq_some.mp e2
          obtain ⟨u', hu', ru⟩ := rv.get x1
          obtain ⟨v', hv', rv'⟩ := rv2.get x2
          have eu : u = u' := by simp at hu; rw [hu'] at hu; exact (Option.some.inj hu).symm
          have ev : v = v' := by simp at hv; rw [hv'] at hv; exact (Option.some.inj hv).symm
          subst eu ev
          exact ⟨u, v, ru, rv', hT⟩
      have nS : h1.objs.size ∉ ts := fun q => absurd (hge _ q) (Nat.not_succ_le_self _)
      have hSn : H2 h1.objs.size = none := by rw [kH _ nS]; exact fresh _ (by rw [h15]; exact Nat.le_add_right _ _)
      have ok3 : HOk X.prog X.w (upd H2 h1.objs.size (.lst (ts.map V.ref))) h' := ok2.laidN (fun _ _ e => e) hSn (show ObjOk X.prog X.w _ _ _ (.lst (ts.map V.ref)) from ⟨by rw [List.length_map, hl]; simp only [List.size_toArray]; omega, ts.map Value.ref, c', vals_refs ts, hS⟩)
      have I3 : Inv X pins σ (upd H2 h1.objs.size (.lst (ts.map V.ref))) { s1 with heap := h', toks := s1.toks } := inv_big I1 kk (fun b hb => by
        have b1 : b ≠ h1.objs.size := Nat.ne_of_lt (by rw [h15]; exact Nat.lt_add_right 5 hb)
        have b2 : b ∉ ts := fun q => absurd (Nat.lt_of_lt_of_le (Nat.lt_trans (by rw [h15]; exact Nat.lt_add_right 5 hb) (Nat.lt_succ_self h1.objs.size)) (hge _ q)) (Nat.lt_irrefl _)
        rw [upd_ne b1, kH b b2]) ok3
      exact ⟨.ref h1.objs.size, _, I3, rfl, q ts H2 _ lay hSn⟩
end
end EV

set_option maxRecDepth 100000
set_option maxHeartbeats 2000000
namespace EV
open PySem PySem.Spec PyProof.Rows L2

/-! ### values, the store, results -/
/-- a value: data by what it is; an object of the store by its number -/
inductive AV where
  | non | bl (b : Bool) | int (i : Int) | str (x : Str)
  | tup (l : List AV) | lst (l : List AV) | scr (l : List Int) | loc (n : Nat)
  | dic (ks : List Key) (l : List AV) | dit (ks : List (List Key)) (l : List AV)
/-- what a list, a dict (keys: numbers and texts; tuples of these) holds -/
inductive Ct where
  | lst (l : List AV) | dic (ks : List Key) (l : List AV) | dit (ks : List (List Key)) (l : List AV)
def Ct.vals : Ct → List AV
  | .lst l => l
  | .dic _ l => l
  | .dit _ l => l
def Ct.av : Ct → AV
  | .lst l => .lst l
  | .dic ks l => .dic ks l
  | .dit ks l => .dit ks l
inductive Ob where
  | ct (c : Ct)
  | ins (c : Str) (ns : List Str) (l : List AV)
structure Sto where
  fl : Nat
  ob : List Ob
/-- a result: a value, a list just made, a list that a name owns -/
inductive R where
  | v (a : AV) | tl (c : Ct) | bo (c : Ct)
inductive Rs (α : Type) where
  | ok (a : α) (s : Sto) | exc (c : Str) (fs : List AV) (s : Sto) | stuck
inductive Sl where
  | no | v (a : AV) | own (c : Ct)
abbrev Env := List Sl

def Rs.bind {α β : Type} (r : Rs α) (f : α → Sto → Rs β) : Rs β := match r with
  | .ok a s => f a s
  | .exc c fs s => .exc c fs s
  | .stuck => .stuck
def Rs.of {α : Type} (o : Option α) (s : Sto) : Rs α := match o with
  | some a => .ok a s
  | none => .stuck
@[simp] theorem Rs.bind_ok {α β : Type} (a : α) (s : Sto) (f : α → Sto → Rs β) : (Rs.ok a s).bind f = f a s := id rfl
@[simp] theorem Rs.bind_exc {α β : Type} (c : Str) (fs : List AV) (s : Sto) (f : α → Sto → Rs β) : (Rs.exc c fs s : Rs α).bind f = .exc c fs s := id rfl
@[simp] theorem Rs.bind_stuck {α β : Type} (f : α → Sto → Rs β) : (Rs.stuck : Rs α).bind f = .stuck := id rfl
@[simp] theorem Rs.of_some {α : Type} (a : α) (s : Sto) : Rs.of (some a) s = .ok a s := id rfl
@[simp] theorem Rs.of_none {α : Type} (s : Sto) : Rs.of (none : Option α) s = .stuck := id rfl

/-- a list just made is from now on a list that nobody writes -/
def fz : R → R
  | .tl c => .v c.av
  | r => r

/-! ### the words of the language -/
inductive Bop where | add | sub | mul | fdiv | mod | pow
  deriving DecidableEq
inductive Cop where | eq | ne | lt | le | gt | ge | isn | notn | inn | notin
  deriving DecidableEq
inductive Ty where | int | bool | str | tuple | list
  deriving DecidableEq
inductive Bi where | len | sum | min | max | tuple | list
  deriving DecidableEq
inductive Op1 where | neg | intb | rvs | sorted | minL | maxL | lset
  deriving DecidableEq
inductive Op2 where | idx | dget | din | dnin | lzip
  deriving DecidableEq
inductive Op3 where | dget2 | idx3
  deriving DecidableEq
inductive Tg where
  | nm (i : Nat) | tp (is : List Nat)

mutual
inductive E (F : Type) where
  | var (i : Nat)
  | cst (c : AV)
  | glb (x : Str) (c : AV)
  | glt (x : Str) (l : List Str)
  | tup (es : Es F)
  | lst (es : Es F)
  | bin (o : Bop) (a b : E F)
  | cmp (o : Cop) (a b : E F)
  | ch2 (o p : Cop) (a b c : E F)
  | ch3 (o p q : Cop) (a b c d : E F)
  | and (es : Es F)
  | or (es : Es F)
  | not (a : E F)
  | ife (c a b : E F)
  | sub (a i : E F)
  | slc (a : E F) (lo hi : OE F)
  | isi (a : E F) (t : Ty)
  | isis (a : E F) (ts : List Ty)
  | bi (f : Bi) (es : Es F)
  | call (f : F) (es : Es F)
  | lc (t : Tg) (it : It F) (c : OE F) (e : E F)
  | op1 (o : Op1) (a : E F)
  | op2 (o : Op2) (a b : E F)
  | op3 (o : Op3) (a b c : E F)
  | dnew (t : Bool)
  | rgc (t : Bool) (n : Nat) (es : Es F)
  | gget (x : Str) (t : List (Str × Int)) (k d : E F)
  | popL (a i : E F)
  | new (a : E F)
inductive Es (F : Type) where
  | nil | cons (e : E F) (es : Es F)
inductive OE (F : Type) where
  | none | some (e : E F)
inductive It (F : Type) where
  | seq (e : E F) | rng (n : Nat) (es : Es F) | rev (a : E F) | zip (es : Es F) | enum (es : Es F) | zip3 (es : Es F) | zipr (a b : E F)
end

mutual
inductive S (F : Type) where
  | set (i : Nat) (e : E F)
  | own (i : Nat) (e : E F)
  | heap (i : Nat) (e : E F)
  | unp (is : List Nat) (e : E F)
  | mv (i j : Nat)
  | frz (i : Nat)
  | app (i : Nat) (e : E F)
  | ext (i : Nat) (e : E F)
  | putO (i : Nat) (k e : E F)
  | putL (a k e : E F)
  | appL (a e : E F)
  | expr (e : E F)
  | ret (e : E F)
  | retV (i : Nat)
  | retN
  | ife (c : E F) (a b : Ss F)
  | for_ (t : Tg) (it : It F) (b : Ss F)
  | whl (c : E F) (b : Ss F)
  | par (i j : Nat) (a b : E F)
  | dputO (i : Nat) (k e : E F)
  | dsetO (i : Nat) (k e : E F)
  | never
inductive Ss (F : Type) where
  | nil | cons (s : S F) (ss : Ss F)
end
structure Fn (F : Type) where
  ps : Nat
  ns : Nat
  body : Ss F

/-! ### operations -/
def seqOf (s : Sto) : R → Option (List AV)
  | .v (.tup l) => some l
  | .v (.lst l) => some l
  | .v (.loc n) => match s.ob[n]? with
    | some (.ct (.lst l)) => some l
    | _ => none
  | .tl (.lst l) => some l
  | .bo (.lst l) => some l
  | .v (.scr l) => some (l.map .int)
  | _ => none
def isTup : R → Bool
  | .v (.tup _) => true
  | _ => false
section
variable (f : Nat → Option PyData)
mutual
/-- data; f: what the store's numbers stand for -/
def toD : AV → Option PyData
  | .non => some .none
  | .bl b => some (.bool b)
  | .int i => some (.int i)
  | .str x => some (.str x)
  | .tup l => (toDs l).map .tuple
  | .lst l => (toDs l).map .list
  | .scr l => some (.list (l.map .int))
  | .loc n => f n
  | .dic _ _ => none
  | .dit _ _ => none
def toDs : List AV → Option (List PyData)
  | [] => some []
  | a :: l => match toD a, toDs l with
    | some d, some ds => some (d :: ds)
    | _, _ => none
end
end
def ctD (f : Nat → Option PyData) : Ct → Option PyData
  | .lst l => (toDs f l).map .list
  | _ => none
/-- the store's lists, one within another d times -/
def locD (s : Sto) : Nat → Nat → Option PyData
  | 0, _ => none
  | d + 1, n => match s.ob[n]? with
    | some (.ct c) => ctD (locD s d) c
    | _ => none
def dat (s : Sto) : R → Option PyData
  | .v a => toD (locD s 4) a
  | .tl c => ctD (locD s 4) c
  | .bo c => ctD (locD s 4) c
def eqR (s : Sto) (x y : R) : Option Bool := match dat s x, dat s y with
  | some d, some e => if SeqAt.shaped d && SeqAt.shaped e then some (PyData.eqv d e) else none
  | _, _ => none
def isNon : R → Bool
  | .v .non => true
  | _ => false
def flatA : AV → Bool
  | .non => true
  | .bl _ => true
  | .int _ => true
  | .str _ => true
  | _ => false
def flatD : PyData → Bool
  | .none => true
  | .bool _ => true
  | .int _ => true
  | .str _ => true
  | _ => false
def inR (s : Sto) (x y : R) : Option Bool := match dat s x, dat s y with
  | some d, some (.list ds) => if SeqAt.shaped d && SeqAt.shaped (.list ds) then some (ds.any fun z => PyData.eqv z d) else none
  | some d, some (.tuple ds) => if flatD d && ds.all flatD then some (ds.any fun z => PyData.eqv z d) else none
  | _, _ => none
def intsOf : List AV → Option (List Int)
  | [] => some []
  | .int i :: l => (intsOf l).map (i :: ·)
  | _ :: _ => none
def cmpR (s : Sto) : Cop → R → R → Option Bool
  | .eq, x, y => eqR s x y
  | .ne, x, y => (eqR s x y).map (!·)
  | .isn, x, .v .non => some (isNon x)
  | .notn, x, .v .non => some (!isNon x)
  | .lt, .v (.int i), .v (.int j) => some (decide (i < j))
  | .le, .v (.int i), .v (.int j) => some (decide (i ≤ j))
  | .gt, .v (.int i), .v (.int j) => some (decide (j < i))
  | .ge, .v (.int i), .v (.int j) => some (decide (j ≤ i))
  | .lt, .v (.tup a), .v (.tup b) => match intsOf a, intsOf b with
    | some n, some m => some (HT.lexLt n m)
    | _, _ => none
  | .inn, x, y => inR s x y
  | .notin, x, y => (inR s x y).map (!·)
  | _, _, _ => none
def mulOk (i j : Int) : Bool := decide (-(2 ^ 64) < i ∧ i < 2 ^ 64) || decide (-(2 ^ 64) < j ∧ j < 2 ^ 64)
/-- a list that stands by itself -/
def lstOf (s : Sto) : R → Option (List AV)
  | .v (.lst l) => some l
  | .v (.loc n) => match s.ob[n]? with
    | some (.ct (.lst l)) => some l
    | _ => none
  | .tl (.lst l) => some l
  | .bo (.lst l) => some l
  | _ => none
def binR (s : Sto) : Bop → R → R → Option R
  | .add, .v (.int i), .v (.int j) => some (.v (.int (i + j)))
  | .sub, .v (.int i), .v (.int j) => some (.v (.int (i - j)))
  | .mul, .v (.int i), .v (.int j) => if mulOk i j then some (.v (.int (i * j))) else none
  | .fdiv, .v (.int i), .v (.int j) => if decide (0 < j) && decide (j < 1073741824) then some (.v (.int (i / j))) else none
  | .mod, .v (.int i), .v (.int j) => if decide (0 < j) then some (.v (.int (i % j))) else none
  | .pow, .v (.int i), .v (.int j) => if decide (0 ≤ j) && decide (j ≤ 1000000) && decide (i.natAbs < 2 ^ 64) then some (.v (.int (i ^ j.toNat))) else none
  | .add, .v (.tup a), .v (.tup b) => if decide (a.length + b.length ≤ sizeLine) then some (.v (.tup (a ++ b))) else none
  | .add, .v (.str a), .v (.str b) => if decide (a.length + b.length ≤ sizeLine) then some (.v (.str (a ++ b))) else none
  | .mul, .v (.tup a), .v (.int k) => if decide (-(2 ^ 62) ≤ k) && decide (k < 2 ^ 62) && decide (a.length * k.toNat ≤ sizeLine) then some (.v (.tup (List.flatten (List.replicate k.toNat a)))) else none
  | .mul, x, .v (.int k) => match lstOf s x with
    | some a => if decide (-(2 ^ 62) ≤ k) && decide (k < 2 ^ 62) && decide (a.length * k.toNat ≤ sizeLine) then some (.tl (.lst (List.flatten (List.replicate k.toNat a)))) else none
    | none => none
  | .add, x, y => match lstOf s x, lstOf s y with
    | some a, some b => if decide (a.length + b.length ≤ sizeLine) then some (.tl (.lst (a ++ b))) else none
    | _, _ => none
  | _, _, _ => none
def subR (s : Sto) (x y : R) : Option R := match y with
  | .v (.int i) => match seqOf s x with
    | some l => (atI l i).map .v
    | none => match x with
      | .v (.str z) => if decide (z.length ≤ sizeLine) then (atI z.cps.toList i).map fun c => .v (.str ⟨#[c]⟩) else none
      | _ => none
  | _ => none
/-- the items of xs[lo:hi] -/
def cutA {A : Type} (xs : List A) (lo hi : Option Int) : List A := (xs.drop (HT.sIx xs.length 0 lo)).take (HT.sIx xs.length xs.length hi - HT.sIx xs.length 0 lo)
def slcR (s : Sto) (x : R) (l h : Option Int) : Option R := match x with
  | .v (.tup xs) => some (.v (.tup (cutA xs l h)))
  | .v (.str z) => if decide (z.length ≤ sizeLine) then some (.v (.str (cutS z l h))) else none
  | x => match seqOf s x with
    | some xs => some (.tl (.lst (cutA xs l h)))
    | none => none
/-- kinds of values -/
inductive Kd where | non | bool | int | str | tuple | list
  deriving DecidableEq
def Ct.kd : Ct → Option Kd
  | .lst _ => some .list
  | _ => none
def kdOf (s : Sto) : R → Option Kd
  | .v .non => some .non
  | .v (.bl _) => some .bool
  | .v (.int _) => some .int
  | .v (.str _) => some .str
  | .v (.tup _) => some .tuple
  | .v (.lst _) => some .list
  | .v (.scr _) => some .list
  | .v (.dic _ _) => none
  | .v (.dit _ _) => none
  | .v (.loc n) => match s.ob[n]? with
    | some (.ct c) => c.kd
    | _ => none
  | .tl c => c.kd
  | .bo c => c.kd
def kdOk : Kd → Ty → Bool
  | .int, .int => true
  | .bool, .int => true
  | .bool, .bool => true
  | .str, .str => true
  | .tuple, .tuple => true
  | .list, .list => true
  | _, _ => false
def biR (s : Sto) : Bi → List R → Option R
  | .len, [x] => match seqOf s x with
    | some l => some (.v (.int l.length))
    | none => match x with
      | .v (.str z) => if decide (z.length ≤ sizeLine) then some (.v (.int z.length)) else none
      | _ => none
  | .sum, [x] => if isTup x then none else match seqOf s x with
    | some l => (intsOf l).map fun ns => .v (.int ns.sum)
    | none => none
  | .min, [.v (.int i), .v (.int j)] => some (.v (.int (if j < i then j else i)))
  | .max, [.v (.int i), .v (.int j)] => some (.v (.int (if j > i then j else i)))
  | .tuple, [x] => match seqOf s x with
    | some l => if isTup x then some (.v (.tup l)) else some (.v (.tup l))
    | none => none
  | .list, [x] => match seqOf s x with
    | some l => some (.tl (.lst l))
    | none => none
  | _, _ => none
/-- what a walk gives, turn by turn -/
def seqV : AV → Option (List AV)
  | .tup l => some l
  | .lst l => some l
  | .scr l => some (l.map .int)
  | _ => none
def itV : AV → Option (List AV)
  | .str z => some (z.cps.toList.map fun c => .str ⟨#[c]⟩)
  | .tup l => some l
  | .lst l => some l
  | .scr l => some (l.map .int)
  | _ => none
def isTupA : AV → Bool
  | .tup _ => true
  | _ => false
def smallI (i : Int) : Bool := decide (-(2 ^ 62) ≤ i) && decide (i < 2 ^ 62)
def rngL (a b : Int) : List AV := (List.range (b - a).toNat).map fun (k : Nat) => .int (a + k)
def rngR : Nat → List R → Option (List AV)
  | 1, [.v (.int j)] => if smallI j then some (rngL 0 j) else none
  | 2, [.v (.int i), .v (.int j)] => if smallI i && smallI j then some (rngL i j) else none
  | 3, [.v (.int i), .v (.int j), .v (.int c)] => if decide (c ≠ 0) && decide (c.natAbs < 1073741824) && Builtin.Range.small i j c && decide (0 ≤ Builtin.Range.rangeSize i j c) then some ((List.range (Builtin.Range.rangeSize i j c).toNat).map fun (k : Nat) => .int (i + k * c)) else none
  | _, _ => none
def zipR : List R → Option (List AV)
  | [.v a, .v b] => match seqV a, seqV b with
    | some l, some m => if isTupA a == isTupA b then some ((l.zip m).map fun p => .tup [p.1, p.2]) else none
    | _, _ => none
  | _ => none
def enumR : List R → Option (List AV)
  | [.v a] => match seqV a with
    | some l => if isTupA a then none else some (((List.range l.length).zip l).map fun p => .tup [.int (p.1 : Nat), p.2])
    | none => none
  | _ => none

/-- a key -/
def keyA : AV → Option Key
  | .int i => some (.inl i)
  | .str x => some (.inr x)
  | _ => none
def look {A : Type} [DecidableEq A] : List A → List AV → A → Option AV
  | k :: ks, v :: vs, q => if k = q then some v else look ks vs q
  | _, _, _ => none
def repl {A : Type} [DecidableEq A] : List A → List AV → A → AV → List AV
  | k :: ks, v :: vs, q, x => (if k = q then x else v) :: repl ks vs q x
  | _, _, _, _ => []
def store {A : Type} [DecidableEq A] (ks : List A) (vs : List AV) (q : A) (x : AV) : List A × List AV :=
  if (ks.any fun k => decide (k = q)) = true then (ks, repl ks vs q x) else (ks ++ [q], vs ++ [x])
/-- a list, a dict -/
def ctOf (s : Sto) : R → Option Ct
  | .v (.lst l) => some (.lst l)
  | .v (.dic ks l) => some (.dic ks l)
  | .v (.dit ks l) => some (.dit ks l)
  | .v (.loc n) => match s.ob[n]? with
    | some (.ct c) => some c
    | _ => none
  | .tl c => some c
  | .bo c => some c
  | _ => none
/-- what a dict holds at a key -/
def dgetR (s : Sto) (x y : R) : Option (Option AV) := match ctOf s x, y with
  | some (.dic ks vs), .v a => (keyA a).map fun k => look ks vs k
  | _, _ => none
def insI (x : Int) : List Int → List Int
  | [] => [x]
  | y :: l => if x ≤ y then x :: y :: l else y :: insI x l
def sortI : List Int → List Int
  | [] => []
  | x :: l => insI x (sortI l)
def minI : List Int → Option Int
  | [] => none
  | [x] => some x
  | x :: l => (minI l).map fun m => if m < x then m else x
def maxI : List Int → Option Int
  | [] => none
  | [x] => some x
  | x :: l => (maxI l).map fun m => if x < m then m else x
def negR : R → Option R
  | .v (.int i) => some (.v (.int (-i)))
  | _ => none
def intbR : R → Option R
  | .v (.bl b) => some (.v (.int (if b then 1 else 0)))
  | .v (.int i) => some (.v (.int i))
  | _ => none
def rvsR (s : Sto) (x : R) : Option R := match lstOf s x with
  | some l => some (.tl (.lst l.reverse))
  | none => match x with
    | .v (.tup l) => some (.v (.tup l.reverse))
    | _ => none
/-- how many numbers a list has, each once -/
def setN (ns : List Int) : Nat := (PyProof.Rows.firstMet (fun i => ns.getD i 0) ns.length).length
def lsetR (s : Sto) (x : R) : Option R := (lstOf s x).bind fun l => (intsOf l).bind fun ns => if decide (ns.length ≤ 4000) then some (.v (.int (setN ns : Nat))) else none
def opR1 (s : Sto) : Op1 → R → Option R
  | .neg => negR
  | .intb => intbR
  | .rvs => rvsR s
  | .sorted => fun x => (seqOf s x).bind fun l => (intsOf l).map fun ns => .tl (.lst ((sortI ns).map .int))
  | .minL => fun x => (lstOf s x).bind fun l => (intsOf l).bind fun ns => (minI ns).map fun m => .v (.int m)
  | .lset => lsetR s
  | .maxL => fun x => (lstOf s x).bind fun l => (intsOf l).bind fun ns => (maxI ns).map fun m => .v (.int m)
/-- the first place of an equal one -/
def idxD (d : PyData) : List PyData → Option Nat
  | [] => none
  | z :: l => if PyData.eqv z d then some 0 else (idxD d l).map (· + 1)
def idxR (s : Sto) (x y : R) : Option R := match dat s x, dat s y with
  | some (.list ds), some d => if SeqAt.shaped d && SeqAt.shaped (.list ds) then (idxD d ds).map fun (j : Nat) => .v (.int (j : Int)) else none
  | _, _ => none
/-- list(zip(x, y)), two lists -/
def lzR (s : Sto) (x y : R) : Option R := match lstOf s x, lstOf s y with
  | some l, some m => some (.tl (.lst ((l.zip m).map fun p => .tup [p.1, p.2])))
  | _, _ => none
def opR2 (s : Sto) : Op2 → R → R → Option R
  | .idx => idxR s
  | .lzip => lzR s
  | .dget => fun x y => (dgetR s x y).bind fun o => o.map .v
  | .din => fun y x => (dgetR s x y).map fun o => .v (.bl o.isSome)
  | .dnin => fun y x => (dgetR s x y).map fun o => .v (.bl !o.isSome)
def op2L (s : Sto) : Op2 → R → Bool
  | .idx => fun x => (lstOf s x).isSome
  | _ => fun _ => true
def isDic (s : Sto) (x : R) : Bool := match ctOf s x with
  | some (.lst _) => false
  | some _ => true
  | none => false
def op3L (s : Sto) : Op3 → R → Bool
  | .dget2 => isDic s
  | .idx3 => fun x => (lstOf s x).isSome
/-- the first place of an equal one, from a place on -/
def idx3R (s : Sto) (x y : R) : R → Option R
  | .v (.int i) => if decide (0 ≤ i) then (match dat s x, dat s y with
    | some (.list ds), some d => if SeqAt.shaped d && SeqAt.shaped (.list ds) then (idxD d (ds.drop i.toNat)).map fun (j : Nat) => .v (.int ((i.toNat + j : Nat) : Int)) else none
    | _, _ => none) else none
  | _ => none
def get2R (s : Sto) (x y : R) : R → Option R
  | .v z => (dgetR s x y).map fun o => .v (o.getD z)
  | _ => none
def opR3 (s : Sto) : Op3 → R → R → R → Option R
  | .dget2 => get2R s
  | .idx3 => idx3R s
/-- a written dict of numbers by texts -/
def ggetR (t : List (Str × Int)) : R → R → Option R
  | .v (.str k), .v (.int d) => some (.v (.int ((t.lookup k).getD d)))
  | _, _ => none
def zip3R : List R → Option (List AV)
  | [.v (.tup a), .v (.tup b), .v (.tup c)] => some ((a.zip (b.zip c)).map fun p => .tup [p.1, p.2.1, p.2.2])
  | _ => none
def ziprR : R → R → Option (List AV)
  | .v (.tup a), .v (.tup b) => some ((a.reverse.zip b.reverse).map fun p => .tup [p.1, p.2])
  | _, _ => none
def popR (s : Sto) : R → R → Option (AV × Sto)
  | .v (.loc n), .v (.int i) => if n < s.fl then none else match s.ob[n]? with
    | some (.ct (.lst l)) => if decide (-(2 ^ 63) ≤ i) && decide (i < 2 ^ 63) then (seqIndex? i l.length).bind fun k => l[k]?.map fun a => (a, { s with ob := s.ob.set n (.ct (.lst (l.eraseIdx k))) }) else none
    | _ => none
  | _, _ => none

/-! ### the evaluation -/
def setT (env : Env) : Tg → AV → Option Env
  | .nm i, a => some (env.set i (.v a))
  | .tp is, .tup l => if is.length = l.length then some ((is.zip l).foldl (fun e p => e.set p.1 (.v p.2)) env) else none
  | _, _ => none
def wipeT (env : Env) : Tg → Env
  | .nm i => env.set i .no
  | .tp is => is.foldl (fun e i => e.set i .no) env
def rd (env : Env) (i : Nat) : Option R := match env[i]? with
  | some (.v a) => some (.v a)
  | some (.own l) => some (.bo l)
  | _ => none
abbrev Cf (F : Type) := F → List AV → Sto → Rs R
def toA : R → Option AV
  | .v a => some a
  | _ => none
def toAs : List R → Option (List AV)
  | [] => some []
  | r :: l => match toA r, toAs l with
    | some a, some as => some (a :: as)
    | _, _ => none
/-- a comprehension's loop -/
def lcL (f : AV → Sto → Rs (Option AV)) : List AV → List AV → Sto → Rs (List AV)
  | acc, [], s => .ok acc s
  | acc, x :: l, s => (f x s).bind fun o s => match o with
    | some a => if acc.length < sizeLine then lcL f (acc ++ [a]) l s else .stuck
    | none => lcL f acc l s
/-- no exception leaves -/
def noX {α : Type} : Rs α → Rs α
  | .exc _ _ _ => .stuck
  | r => r
def bl? : R → Option Bool
  | .v (.bl b) => some b
  | _ => none
section
variable {F : Type} (C : Cf F)
mutual
def ev (env : Env) : E F → Sto → Rs R
  | .var i, s => .of (rd env i) s
  | .cst c, s => .ok (.v c) s
  | .glb _ c, s => .ok (.v c) s
  | .glt _ l, s => .ok (.v (.tup (l.map .str))) s
  | .tup es, s => (evs env es s).bind fun rs s => .of ((toAs rs).bind fun l => if l.length ≤ sizeLine then some (.v (.tup l)) else none) s
  | .lst es, s => (evs env es s).bind fun rs s => .of ((toAs rs).bind fun l => if l.length ≤ sizeLine then some (.tl (.lst l)) else none) s
  | .bin o a b, s => (ev env a s).bind fun x s => (ev env b s).bind fun y s => .of (binR s o (fz x) (fz y)) s
  | .cmp o a b, s => (ev env a s).bind fun x s => (ev env b s).bind fun y s => .of ((cmpR s o (fz x) (fz y)).map fun k => .v (.bl k)) s
  | .ch2 o p a b c, s => (ev env a s).bind fun x s => (ev env b s).bind fun y s => (Rs.of (cmpR s o (fz x) (fz y)) s).bind fun k s => match k with
    | false => .ok (.v (.bl false)) s
    | true => (ev env c s).bind fun z s => .of ((cmpR s p (fz y) (fz z)).map fun k => .v (.bl k)) s
  | .ch3 o p q a b c d, s => (ev env a s).bind fun x s => (ev env b s).bind fun y s => (Rs.of (cmpR s o (fz x) (fz y)) s).bind fun k s => match k with
    | false => .ok (.v (.bl false)) s
    | true => (ev env c s).bind fun z s => (Rs.of (cmpR s p (fz y) (fz z)) s).bind fun k s => match k with
      | false => .ok (.v (.bl false)) s
      | true => (ev env d s).bind fun u s => .of ((cmpR s q (fz z) (fz u)).map fun k => .v (.bl k)) s
  | .and es, s => evAnd env es s
  | .or es, s => evOr env es s
  | .not a, s => (ev env a s).bind fun x s => .of ((bl? x).map fun k => .v (.bl (!k))) s
  | .ife c a b, s => (ev env c s).bind fun x s => (Rs.of (bl? x) s).bind fun k s => match k with
    | true => ev env a s
    | false => ev env b s
  | .sub a i, s => (ev env a s).bind fun x s => (ev env i s).bind fun y s => .of (subR s (fz x) (fz y)) s
  | .slc a lo hi, s => (ev env a s).bind fun x s => (evo env lo s).bind fun l s => (evo env hi s).bind fun h s => .of (slcR s (fz x) l h) s
  | .isi a t, s => (ev env a s).bind fun x s => .of ((kdOf s x).map fun d => .v (.bl (kdOk d t))) s
  | .isis a ts, s => (ev env a s).bind fun x s => .of ((kdOf s x).map fun d => .v (.bl (ts.any fun t => kdOk d t))) s
  | .bi f es, s => (evs env es s).bind fun rs s => .of (biR s f rs) s
  | .call f es, s => (evs env es s).bind fun rs s => (Rs.of (toAs rs) s).bind fun l s => C f l s
  | .lc t it c e, s => (evi env it s).bind fun l s => (lcL (fun x s => (Rs.of (setT (wipeT env t) t x) s).bind fun env1 s => noX ((evc env1 c s).bind fun k s => match k with
      | false => .ok none s
      | true => (ev env1 e s).bind fun r s => (Rs.of (toA (fz r)) s).bind fun a s => .ok (some a) s)) [] l s).bind fun l s => .ok (.tl (.lst l)) s
  | .op1 o a, s => (ev env a s).bind fun x s => .of (opR1 s o (fz x)) s
  | .op2 o a b, s => (ev env a s).bind fun x s => match op2L s o (fz x) with
    | true => (ev env b s).bind fun y s => .of (opR2 s o (fz x) (fz y)) s
    | false => .stuck
  | .op3 o a b c, s => (ev env a s).bind fun x s => match op3L s o (fz x) with
    | true => (ev env b s).bind fun y s => (ev env c s).bind fun z s => .of (opR3 s o (fz x) (fz y) z) s
    | false => .stuck
  | .dnew t, s => .ok (.tl (match t with
    | false => .dic [] []
    | true => .dit [] [])) s
  | .rgc t n es, s => (evs env es s).bind fun rs s => .of ((rngR n rs).bind fun l => if l.length ≤ sizeLine then some (match t with
    | false => .tl (.lst l)
    | true => .v (.tup l)) else none) s
  | .gget _ t k d, s => (ev env k s).bind fun x s => (ev env d s).bind fun y s => .of (ggetR t (fz x) (fz y)) s
  | .popL a i, s => (ev env a s).bind fun x s => match (lstOf s x).isSome with
    | true => (ev env i s).bind fun y s => (Rs.of (popR s x y) s).bind fun p _ => .ok (.v p.1) p.2
    | false => .stuck
  | .new a, s => (ev env a s).bind fun x s => match x with
    | .tl c => .ok (.v (.loc s.ob.length)) { s with ob := s.ob ++ [.ct c] }
    | _ => .stuck
def evs (env : Env) : Es F → Sto → Rs (List R)
  | .nil, s => .ok [] s
  | .cons e es, s => (ev env e s).bind fun r s => (evs env es s).bind fun l s => .ok (fz r :: l) s
def evo (env : Env) : OE F → Sto → Rs (Option Int)
  | .none, s => .ok none s
  | .some e, s => (ev env e s).bind fun r s => match r with
    | .v (.int i) => .ok (some i) s
    | _ => .stuck
def evc (env : Env) : OE F → Sto → Rs Bool
  | .none, s => .ok true s
  | .some e, s => (ev env e s).bind fun r s => .of (bl? r) s
def evAnd (env : Env) : Es F → Sto → Rs R
  | .nil, _ => .stuck
  | .cons e .nil, s => (ev env e s).bind fun r s => .of ((bl? r).map fun k => .v (.bl k)) s
  | .cons e es, s => (ev env e s).bind fun x s => (Rs.of (bl? x) s).bind fun k s => match k with
    | true => evAnd env es s
    | false => .ok (.v (.bl false)) s
def evOr (env : Env) : Es F → Sto → Rs R
  | .nil, _ => .stuck
  | .cons e .nil, s => (ev env e s).bind fun r s => .of ((bl? r).map fun k => .v (.bl k)) s
  | .cons e es, s => (ev env e s).bind fun x s => (Rs.of (bl? x) s).bind fun k s => match k with
    | true => .ok (.v (.bl true)) s
    | false => evOr env es s
/-- what a walk gives -/
def evi (env : Env) : It F → Sto → Rs (List AV)
  | .seq e, s => (ev env e s).bind fun x s => .of ((toA (fz x)).bind itV) s
  | .rng n es, s => (evs env es s).bind fun rs s => .of (rngR n rs) s
  | .rev a, s => (ev env a s).bind fun x s => .of ((toA (fz x)).bind fun a => (seqV a).map List.reverse) s
  | .zip es, s => (evs env es s).bind fun rs s => .of (zipR rs) s
  | .enum es, s => (evs env es s).bind fun rs s => .of (enumR rs) s
  | .zip3 es, s => (evs env es s).bind fun rs s => .of (zip3R rs) s
  | .zipr a b, s => (ev env a s).bind fun x s => match isTup (fz x) with
    | true => (ev env b s).bind fun y s => .of (ziprR (fz x) (fz y)) s
    | false => .stuck
end

/-- what a statement ends with -/
inductive Fl where
  | nx | rt (r : R)
def wr (s : Sto) (n : Nat) (f : List AV → Option (List AV)) : Option Sto := if n < s.fl then none else match s.ob[n]? with
  | some (.ct (.lst l)) => (f l).map fun l' => { s with ob := s.ob.set n (.ct (.lst l')) }
  | _ => none
def isLoc (s : Sto) : R → Option Nat
  | .v (.loc n) => match s.ob[n]? with
    | some (.ct (.lst _)) => some n
    | _ => none
  | _ => none
/-- a loop's turns -/
def forL (f : Env → AV → Sto → Rs (Fl × Env)) : List AV → Env → Sto → Rs (Fl × Env)
  | [], env, s => .ok (.nx, env) s
  | x :: l, env, s => (f env x s).bind fun p s => match p.1 with
    | .nx => forL f l p.2 s
    | .rt r => .ok (.rt r, p.2) s
/-- a while's turns, at most so many -/
def whlL (c : Env → Sto → Rs Bool) (f : Env → Sto → Rs (Fl × Env)) : Nat → Env → Sto → Rs (Fl × Env)
  | 0, _, _ => .stuck
  | m + 1, env, s => (c env s).bind fun k s => match k with
    | false => .ok (.nx, env) s
    | true => (f env s).bind fun p s => match p.1 with
      | .nx => whlL c f m p.2 s
      | .rt r => .ok (.rt r, p.2) s
mutual
def ex (env : Env) : S F → Sto → Rs (Fl × Env)
  | .set i e, s => (ev C env e s).bind fun r s => (Rs.of (toA (fz r)) s).bind fun a s => .ok (.nx, env.set i (.v a)) s
  | .own i e, s => (ev C env e s).bind fun r s => match r with
    | .tl l => .ok (.nx, env.set i (.own l)) s
    | _ => .stuck
  | .heap i e, s => (ev C env e s).bind fun r s => match r with
    | .tl c => .ok (.nx, env.set i (.v (.loc s.ob.length))) { s with ob := s.ob ++ [.ct c] }
    | _ => .stuck
  | .unp is e, s => (ev C env e s).bind fun r s => match r with
    | .v (.tup l) => if is.length = l.length then .ok (.nx, (is.zip l).foldl (fun e p => e.set p.1 (.v p.2)) env) s else .stuck
    | _ => .stuck
  | .mv i j, s => match env[j]? with
    | some (.own c) => .ok (.nx, (env.set j .no).set i (.v c.av)) s
    | _ => .stuck
  | .frz i, s => match env[i]? with
    | some (.own c) => .ok (.nx, env.set i (.v c.av)) s
    | _ => .stuck
  | .app i e, s => match env[i]? with
    | some (.own (.lst l)) => (ev C env e s).bind fun r s => (Rs.of (toA (fz r)) s).bind fun a s => if l.length < sizeLine then .ok (.nx, env.set i (.own (.lst (l ++ [a])))) s else .stuck
    | _ => .stuck
  | .ext i e, s => match env[i]? with
    | some (.own (.lst l)) => (ev C env e s).bind fun r s => match fz r with
      | .v (.lst m) => if l.length + m.length ≤ sizeLine then .ok (.nx, env.set i (.own (.lst (l ++ m)))) s else .stuck
      | _ => .stuck
    | _ => .stuck
  | .putO i k e, s => (ev C env e s).bind fun r s => (Rs.of (toA (fz r)) s).bind fun a s => match env[i]? with
    | some (.own (.lst l)) => (ev C env k s).bind fun y s => match y with
      | .v (.int j) => (match ixN l.length j with
        | some n => .ok (.nx, env.set i (.own (.lst (l.set n a)))) s
        | none => .stuck)
      | _ => .stuck
    | _ => .stuck
  | .putL o k e, s => (ev C env e s).bind fun r s => (Rs.of (toA (fz r)) s).bind fun a s => (ev C env o s).bind fun x s => (ev C env k s).bind fun y s => match x, y with
    | .v (.loc n), .v (.int j) => (Rs.of (wr s n fun l => (ixN l.length j).map fun m => l.set m a) s).bind fun s' _ => .ok (.nx, env) s'
    | _, _ => .stuck
  | .appL o e, s => (ev C env o s).bind fun x s => match isLoc s x with
    | some n => (ev C env e s).bind fun r s => (Rs.of (toA (fz r)) s).bind fun a s => (Rs.of (wr s n fun l => if l.length < sizeLine then some (l ++ [a]) else none) s).bind fun s' _ => .ok (.nx, env) s'
    | none => .stuck
  | .expr e, s => (ev C env e s).bind fun _ s => .ok (.nx, env) s
  | .ret e, s => (ev C env e s).bind fun r s => match r with
    | .bo _ => .stuck
    | r => .ok (.rt r, env) s
  | .retV i, s => match env[i]? with
    | some (.own l) => .ok (.rt (.tl l), env) s
    | _ => .stuck
  | .retN, s => .ok (.rt (.v .non), env) s
  | .ife c a b, s => (ev C env c s).bind fun r s => (Rs.of (bl? r) s).bind fun k s => match k with
    | true => exs env a s
    | false => exs env b s
  | .for_ t it b, s => (evi C env it s).bind fun l s => forL (fun env x s => (Rs.of (setT env t x) s).bind fun env s => exs env b s) l env s
  | .whl c b, s => whlL (fun env s => (ev C env c s).bind fun r s => .of (bl? r) s) (fun env s => exs env b s) 64 env s
  | .par i j a b, s => (evs C env (.cons a (.cons b .nil)) s).bind fun rs s => match rs with
    | [.v x, .v y] => .ok (.nx, (env.set i (.v x)).set j (.v y)) s
    | _ => .stuck
  | .dputO i k e, s => (ev C env e s).bind fun r s => (Rs.of (toA (fz r)) s).bind fun a s => match env[i]? with
    | some (.own (.dic ks l)) => (ev C env k s).bind fun y s => match fz y with
      | .v y => (match keyA y with
        | some q => if l.length < sizeLine then .ok (.nx, env.set i (.own (.dic (store ks l q a).1 (store ks l q a).2))) s else .stuck
        | none => .stuck)
      | _ => .stuck
    | _ => .stuck
  | .dsetO i k e, s => match env[i]? with
    | some (.own (.dic ks l)) => (ev C env k s).bind fun y s => (ev C env e s).bind fun r s => (Rs.of (toA (fz r)) s).bind fun a s => match y with
      | .v y => (match keyA y with
        | some q => if l.length < sizeLine then (match look ks l q with
          | some _ => .ok (.nx, env) s
          | none => .ok (.nx, env.set i (.own (.dic (store ks l q a).1 (store ks l q a).2))) s) else .stuck
        | none => .stuck)
      | _ => .stuck
    | _ => .stuck
  | .never, _ => .stuck
def exs (env : Env) : Ss F → Sto → Rs (Fl × Env)
  | .nil, s => .ok (.nx, env) s
  | .cons st ss, s => (ex env st s).bind fun p s => match p.1 with
    | .nx => exs p.2 ss s
    | .rt r => .ok (.rt r, p.2) s
end
end

def call {F : Type} (tb : F → Fn F) : Nat → Cf F
  | 0, _, _, _ => .stuck
  | d + 1, f, l, s => if l.length = (tb f).ps then (exs (call tb d) (l.map .v ++ List.replicate ((tb f).ns - (tb f).ps) .no) (tb f).body s).bind fun p s => match p.1 with
      | .nx => .ok (.v .non) s
      | .rt r => .ok r s
    else .stuck
end EV

set_option maxRecDepth 100000
set_option maxHeartbeats 2000000
namespace EV
open PySem PySem.Spec PyProof.Rows L2
/-! ### the words against the text -/
/-- what the module's names stand for: numbers and texts; dicts of numbers by texts; tuples of texts -/
structure Cn where
  c : List (Str × Const)
  d : List (Str × List (Str × Int))
  t : List (Str × List Str)
def tyName : Ty → String
  | .int => "int" | .bool => "bool" | .str => "str" | .tuple => "tuple" | .list => "list"
def biName : Bi → Str
  | .len => "len" | .sum => "sum" | .min => "min" | .max => "max" | .tuple => "tuple" | .list => "list"
def bopOp : Bop → Operator
  | .add => .Add | .sub => .Sub | .mul => .Mult | .fdiv => .FloorDiv | .mod => .Mod | .pow => .Pow
def copOp : Cop → CmpOp
  | .eq => .Eq | .ne => .NotEq | .lt => .Lt | .le => .LtE | .gt => .Gt | .ge => .GtE | .isn => .Is | .notn => .IsNot | .inn => .In | .notin => .NotIn
def visB (sc : Scope) (x : Str) : Bool := match sc.names.lookup x with
  | some .local => true
  | some .cell => true
  | some .free => true
  | _ => false
def gloB (sc : Scope) (x : Str) : Bool := decide (sc.names.lookup x = some .globalImplicit) && !(x == ("__debug__" : Str)) && !(x == ("__name__" : Str))
def locB (fnB : Bool) (sc : Scope) (x : Str) : Bool := match sc.names.lookup x with
  | some .local => true
  | some .cell => fnB
  | _ => false
def cstB : AV → Const → Bool
  | .non, .none => true
  | .bl b, .bool c => b == c
  | .int i, .int j => decide (i = j)
  | .str x, .str y => decide (x = y)
  | _, _ => false
def nameB (N : List Str) (fnB : Bool) (sc : Scope) (i : Nat) : Expr → Bool
  | .Name x _ => decide (N[i]? = some x) && locB fnB sc x
  | _ => false
def namesB (N : List Str) (fnB : Bool) (sc : Scope) : List Nat → List Expr → Bool
  | [], [] => true
  | i :: is, e :: es => nameB N fnB sc i e && namesB N fnB sc is es
  | _, _ => false
def tgB (N : List Str) (fnB : Bool) (sc : Scope) : Tg → Expr → Bool
  | .nm i, e => nameB N fnB sc i e
  | .tp is, .Tuple es _ _ => namesB N fnB sc is es
  | _, _ => false
def slots : Tg → List Nat
  | .nm i => [i]
  | .tp is => is
def ownOf (N : List Str) (t : Tg) : List (Str × Nat) := (slots t).map fun i => (N.getD i Str.empty, i)
def isTyName (sc : Scope) (t : Ty) : Expr → Bool
  | .Name x _ => decide (x = Str.ofString (tyName t)) && gloB sc x
  | _ => false
def tyNames (sc : Scope) : List Ty → List Expr → Bool
  | [], [] => true
  | t :: ts, e :: es => isTyName sc t e && tyNames sc ts es
  | _, _ => false
/-- zip(reversed(x), reversed(y)) -/
def zrB : Expr → Option (Str × Str × Str × Expr × Expr)
  | .Call (.Name g _) [.Call (.Name g1 _) [x] [] _, .Call (.Name g2 _) [y] [] _] [] _ => some (g, g1, g2, x, y)
  | _ => none
theorem zrB_ok {e : Expr} {g g1 g2 : Str} {x y : Expr} (h : zrB e = some (g, g1, g2, x, y)) : ∃ p p1 q1 p2 q2 pos, e = .Call (.Name g p) [.Call (.Name g1 p1) [x] [] q1, .Call (.Name g2 p2) [y] [] q2] [] pos := by
  unfold zrB at h
  split at h
  · cases h; exact ⟨_, _, _, _, _, _, rfl⟩
  · cases h
def itTg {F : Type} : It F → Expr → Bool
  | .zip _, .Tuple _ _ _ => true
  | .enum _, .Tuple _ _ _ => true
  | .zip3 _, .Tuple _ _ _ => true
  | .zipr _ _, .Tuple _ _ _ => true
  | .zip3 _, _ => false
  | .zipr _ _, _ => false
  | .zip _, _ => false
  | .enum _, _ => false
  | _, _ => true
mutual
/-- may stand as a test -/
def tst {F : Type} : E F → Bool
  | .ife _ _ _ => false
  | .op1 _ _ => false
  | .op2 .din _ _ => true
  | .op2 .dnin _ _ => true
  | .op2 _ _ _ => false
  | .op3 _ _ _ _ => false
  | .dnew _ => false
  | .rgc _ _ _ => false
  | .gget _ _ _ _ => false
  | .popL _ _ => false
  | .new _ => false
  | .glt _ _ => false
  | .not a => tst a
  | .and es => tsts es
  | .or es => tsts es
  | _ => true
def tsts {F : Type} : Es F → Bool
  | .nil => true
  | .cons e es => tst e && tsts es
end
def isM1 : Expr → Bool
  | .UnaryOp .USub (.Constant (.int 1) _ _) _ => true
  | _ => false
def slM1 : Expr → Bool
  | .Slice none none (some s) _ => isM1 s
  | _ => false
def only1 : List Expr → List Keyword → Option Expr
  | [x], [] => some x
  | _, _ => none
def only2 : List Expr → List Keyword → Option (Expr × Expr)
  | [x, y], [] => some (x, y)
  | _, _ => none
def nmOf : Expr → Option Str
  | .Name f _ => some f
  | _ => none
def op1N : Op1 → Option Str
  | .intb => some "int"
  | .sorted => some "sorted"
  | .minL => some "min"
  | .maxL => some "max"
  | _ => none
/-- len(set(x)) -/
def lsetX (sc : Scope) (g : Str) : Expr → Option Expr
  | .Call (.Name g2 _) [x] [] _ => if g = ("len" : Str) ∧ gloB sc g = true ∧ g2 = ("set" : Str) ∧ gloB sc g2 = true then some x else none
  | _ => none
/-- the part of an operation's text -/
def op1B (o : Op1) (sc : Scope) : Expr → Option Expr
  | .UnaryOp u x _ => if o = .neg ∧ u = .USub then some x else none
  | .Subscript x s _ => if o = .rvs ∧ slM1 s = true then some x else none
  | .Call f xs ks _ => match nmOf f, only1 xs ks with
    | some g, some x => if o = .lset then lsetX sc g x else if op1N o = some g ∧ gloB sc g = true then some x else none
    | _, _ => none
  | _ => none
def attr1 : Expr → Option (Expr × Str × Pos)
  | .Attribute x a p => some (x, a, p)
  | _ => none
def cmp1 : List CmpOp → List Expr → Option (CmpOp × Expr)
  | [q], [y] => some (q, y)
  | _, _ => none
/-- the inner part of list(zip(x, y)) -/
def lzX (sc : Scope) (f : Expr) : Expr → Option (Expr × Expr)
  | .Call (.Name g2 _) [x, y] [] _ => if nmOf f = some ("list" : Str) ∧ gloB sc "list" = true ∧ g2 = ("zip" : Str) ∧ gloB sc g2 = true then some (x, y) else none
  | _ => none
def op2B (o : Op2) (sc : Scope) : Expr → Option (Expr × Expr)
  | .Subscript x y _ => if o = .dget then some (x, y) else none
  | .Compare x qs ys _ => match cmp1 qs ys with
    | some (q, y) => if (o = .din ∧ q = .In) ∨ (o = .dnin ∧ q = .NotIn) then some (x, y) else none
    | none => none
  | .Call f xs ks cp => match attr1 f, only1 xs ks with
    | some (x, a, ap), some y => if o = .idx ∧ a = ("index" : Str) ∧ (ap.endLine == cp.line) = true then some (x, y) else none
    | none, some y => if o = .lzip then lzX sc f y else none
    | _, _ => none
  | _ => none
def op3N : Op3 → Str
  | .dget2 => "get"
  | .idx3 => "index"
def op3B (o : Op3) : Expr → Option (Expr × Expr × Expr)
  | .Call f xs ks cp => match attr1 f, only2 xs ks with
    | some (x, a, ap), some (y, z) => if a = op3N o ∧ (ap.endLine == cp.line) = true then some (x, y, z) else none
    | _, _ => none
  | _ => none
def call0 : Expr → Option (Expr × List Expr × Pos)
  | .Call r ys [] p => some (r, ys, p)
  | _ => none
def ltN : Bool → Str
  | true => "tuple"
  | false => "list"
/-- list(range(..)), tuple(range(..)) -/
def rgcB (t : Bool) (n : Nat) (sc : Scope) : Expr → Option (List Expr)
  | .Call f xs ks _ => match nmOf f, (only1 xs ks).bind call0 with
    | some g, some (r, ys, _) => if g = (ltN t) ∧ gloB sc g = true ∧ nmOf r = some "range" ∧ gloB sc "range" = true ∧ ys.length = n ∧ 1 ≤ n ∧ n ≤ 3 then some ys else none
    | _, _ => none
  | _ => none
def popB : Expr → Option (Expr × Expr)
  | .Call f xs ks cp => match attr1 f, only1 xs ks with
    | some (x, a, ap), some y => if a = ("pop" : Str) ∧ (ap.endLine == cp.line) = true then some (x, y) else none
    | _, _ => none
  | _ => none
/-- the module's dict x asked by get -/
def ggetB (sc : Scope) : Expr → Option (Str × Expr × Expr)
  | .Call f xs ks cp => match attr1 f, only2 xs ks with
    | some (.Name g _, a, ap), some (y, z) => if a = ("get" : Str) ∧ gloB sc g = true ∧ (ap.endLine == cp.line) = true then some (g, y, z) else none
    | _, _ => none
  | _ => none
def plainE : Expr → Bool
  | .Call (.Name _ _) [] [] _ => false
  | .Starred _ _ => false
  | .Set .. => false
  | .Slice .. => false
  | .Compare _ _ _ _ => false
  | .BoolOp _ _ _ => false
  | .UnaryOp _ _ _ => false
  | .IfExp _ _ _ _ => false
  | .Name _ _ => false
  | _ => true
def emptyD : Expr → Bool
  | .Dict [] [] _ => true
  | _ => false
def rev1 (sc : Scope) : Expr → Option Expr
  | .Call f xs ks _ => match nmOf f, only1 xs ks with
    | some g, some x => if g = ("reversed" : Str) ∧ gloB sc g = true then some x else none
    | _, _ => none
  | _ => none
section
variable {F : Type} (nm : F → Option Str) (cs : Cn) (N : List Str)
mutual
def okE (sc : Scope) : E F → Expr → Bool
  | .var i, .Name x _ => decide (N[i]? = some x) && visB sc x && !(x == ("__debug__" : Str)) && !(x == ("__classdict__" : Str))
  | .cst c, .Constant k _ _ => cstB c k
  | .glb x c, .Name y _ => decide (x = y) && gloB sc y && (match cs.c.lookup x with
    | some k => cstB c k
    | none => false)
  | .glt x l, .Name y _ => decide (x = y) && gloB sc y && decide (cs.t.lookup x = some l)
  | .tup es, .Tuple xs _ _ => okEs sc es xs
  | .lst es, .List xs _ => okEs sc es xs
  | .bin o a b, .BinOp x q y _ => decide (q = bopOp o) && okE sc a x && okE sc b y
  | .cmp o a b, .Compare x [q] [y] _ => decide (q = copOp o) && okE sc a x && okE sc b y
  | .ch2 o p a b c, .Compare x [q, r] [y, z] _ => decide (q = copOp o) && decide (r = copOp p) && okE sc a x && okE sc b y && okE sc c z
  | .ch3 o p q a b c d, .Compare x [o', p', q'] [y, z, u] _ => decide (o' = copOp o) && decide (p' = copOp p) && decide (q' = copOp q) && okE sc a x && okE sc b y && okE sc c z && okE sc d u
  | .and es, .BoolOp .And xs _ => okEs sc es xs
  | .or es, .BoolOp .Or xs _ => okEs sc es xs
  | .not a, .UnaryOp .Not x _ => okE sc a x
  | .ife c a b, .IfExp z x y _ => tst c && okE sc c z && okE sc a x && okE sc b y
  | .slc a lo hi, .Subscript x (.Slice l h none _) _ => okE sc a x && okO sc lo l && okO sc hi h
  | .sub a i, .Subscript x y _ => okE sc a x && okE sc i y
  | .isi a t, .Call (.Name f _) [x, y] [] _ => decide (f = ("isinstance" : Str)) && gloB sc f && okE sc a x && isTyName sc t y
  | .isis a ts, .Call (.Name f _) [x, .Tuple ys _ _] [] _ => decide (ts.length ≤ sizeLine) && decide (f = ("isinstance" : Str)) && gloB sc f && okE sc a x && tyNames sc ts ys
  | .bi f es, .Call (.Name g _) (x :: xs) [] _ => decide (g = biName f) && gloB sc g && okEs sc es (x :: xs)
  | .call f es, .Call (.Name g _) (x :: xs) [] _ => decide (nm f = some g) && gloB sc g && okEs sc es (x :: xs)
  | .op1 o a, x => (match op1B o sc x with
    | some y => okE sc a y
    | none => false)
  | .op2 o a b, x => (match op2B o sc x with
    | some (y, z) => okE sc a y && okE sc b z
    | none => false)
  | .op3 o a b c, x => (match op3B o x with
    | some (y, z, u) => okE sc a y && okE sc b z && okE sc c u
    | none => false)
  | .dnew _, x => emptyD x
  | .rgc t n es, x => (match rgcB t n sc x with
    | some ys => okEs sc es ys
    | none => false)
  | .gget g t k d, x => (match ggetB sc x with
    | some (h, y, z) => decide (h = g) && decide (cs.d.lookup g = some t) && okE sc k y && okE sc d z
    | none => false)
  | .popL a i, x => (match popB x with
    | some (y, z) => okE sc a y && okE sc i z
    | none => false)
  | .new a, x => plainE x && okE sc a x
  | .lc t it c e, .ListComp elt [⟨tg, iter, ifs, asy⟩] scope _ => decide (asy = 0) && okI sc it iter && blkC N sc scope (ownOf N t) && tgB N false (relS scope sc) t tg && okC (relS scope sc) c ifs && okE (relS scope sc) e elt && itTg it tg
  | _, _ => false
def okEs (sc : Scope) : Es F → List Expr → Bool
  | .nil, [] => true
  | .cons e es, x :: xs => okE sc e x && okEs sc es xs
  | _, _ => false
def okO (sc : Scope) : OE F → Option Expr → Bool
  | .none, none => true
  | .some e, some x => okE sc e x
  | _, _ => false
def okI (sc : Scope) : It F → Expr → Bool
  | .seq e, x => okE sc e x
  | .rng n es, .Call (.Name g _) (x :: xs) [] _ => decide (xs.length + 1 = n ∧ n ≤ 3) && decide (g = ("range" : Str)) && gloB sc g && okEs sc es (x :: xs)
  | .rev a, .Call (.Name g _) [x] [] _ => decide (g = ("reversed" : Str)) && gloB sc g && okE sc a x
  | .zip es, .Call (.Name g _) [x, y] [] _ => decide (g = ("zip" : Str)) && gloB sc g && okEs sc es [x, y]
  | .zip3 es, .Call (.Name g _) [x, y, z] [] _ => decide (g = ("zip" : Str)) && gloB sc g && okEs sc es [x, y, z]
  | .zipr a b, ast => (match zrB ast with
    | some (g, g1, g2, x, y) => decide (g = ("zip" : Str)) && gloB sc g && decide (g1 = ("reversed" : Str)) && gloB sc g1 && decide (g2 = ("reversed" : Str)) && okE sc a x && okE sc b y
    | none => false)
  | .enum es, .Call (.Name g _) [x] [] _ => decide (g = ("enumerate" : Str)) && gloB sc g && okEs sc es [x]
  | _, _ => false
def okC (sc : Scope) : OE F → List Expr → Bool
  | .none, [] => true
  | .some e, [x] => tst e && okE sc e x
  | _, _ => false
end
def setB {F : Type} : E F → Bool
  | .new _ => false
  | _ => true
def isCall : Expr → Bool
  | .Call _ _ _ _ => true
  | _ => false
def isTupE : Expr → Bool
  | .Tuple _ _ _ => true
  | .ListComp _ _ _ _ => true
  | .SetComp _ _ _ _ => true
  | .DictComp _ _ _ _ _ => true
  | _ => false
def name1 : List Expr → Option (Str × Pos)
  | [.Name x p] => some (x, p)
  | _ => none
theorem name1_ok {ts : List Expr} {x : Str} {p : Pos} (h : name1 ts = some (x, p)) : ts = [.Name x p] := by
  unfold name1 at h
  split at h
  · cases h; rfl
  · cases h
def sub1 : List Expr → Option (Expr × Expr × Pos)
  | [.Subscript x y p] => some (x, y, p)
  | _ => none
theorem sub1_ok {ts : List Expr} {x y : Expr} {p : Pos} (h : sub1 ts = some (x, y, p)) : ts = [.Subscript x y p] := by
  unfold sub1 at h
  split at h
  · cases h; rfl
  · cases h
def tup1 : List Expr → Option (List Expr × Nat × Pos)
  | [.Tuple es k p] => some (es, k, p)
  | _ => none
theorem tup1_ok {ts es : List Expr} {k : Nat} {p : Pos} (h : tup1 ts = some (es, k, p)) : ts = [.Tuple es k p] := by
  unfold tup1 at h
  split at h
  · cases h; rfl
  · cases h
def blkS (sc : Scope) : ScopeKind := if sc.kind.isAnnotationScope then .function else sc.kind
def parL (sc : Scope) (x : Str) (px : Pos) (y : Str) (py : Pos) (e f : Expr) : Bool := (blkS sc == .function) && (sc.names.lookup x == some .local) && (sc.names.lookup y == some .local) && (py.line == px.line) && !([e, f].all (foldedForSure 8)) && !([e, f].all (constantsAlone 8))
def parN (sc : Scope) (x y : Str) : Bool := !((sc.names.lookup x == some .local) && (sc.names.lookup y == some .local))
def par2 : List Expr → Expr → Option (Str × Pos × Str × Pos × Nat × Pos × Expr × Expr × Nat × Pos)
  | [.Tuple [.Name x px, .Name y py] kt pt], .Tuple [a, b] k2 pt2 => some (x, px, y, py, kt, pt, a, b, k2, pt2)
  | _, _ => none
theorem par2_ok {ts : List Expr} {v a b : Expr} {x y : Str} {px py pt pt2 : Pos} {kt k2 : Nat} (h : par2 ts v = some (x, px, y, py, kt, pt, a, b, k2, pt2)) : ts = [.Tuple [.Name x px, .Name y py] kt pt] ∧ v = .Tuple [a, b] k2 pt2 := by
  unfold par2 at h
  split at h
  · cases h; exact ⟨rfl, rfl⟩
  · cases h
/-- x.a(v, u) -/
def meth2 : Expr → Option (Expr × Str × Pos × Expr × Expr × Pos)
  | .Call (.Attribute x a ap) [v, u] [] cp => some (x, a, ap, v, u, cp)
  | _ => none
theorem meth2_ok {e x v u : Expr} {a : Str} {ap cp : Pos} (h : meth2 e = some (x, a, ap, v, u, cp)) : e = .Call (.Attribute x a ap) [v, u] [] cp := by
  unfold meth2 at h
  split at h
  · cases h; rfl
  · cases h
/-- x.a(v) -/
def meth1 : Expr → Option (Expr × Str × Pos × Expr × Pos)
  | .Call (.Attribute x a ap) [v] [] cp => some (x, a, ap, v, cp)
  | _ => none
theorem meth1_ok {e x v : Expr} {a : Str} {ap cp : Pos} (h : meth1 e = some (x, a, ap, v, cp)) : e = .Call (.Attribute x a ap) [v] [] cp := by
  unfold meth1 at h
  split at h
  · cases h; rfl
  · cases h
section
variable {F : Type} (nm : F → Option Str) (cs : Cn) (N : List Str)
mutual
def okS (sc : Scope) : S F → Stmt → Bool
  | .set i e, .Assign ts v _ => (match name1 ts with
    | some (x, p) => nameB N true sc i (.Name x p) && (setB e && okE nm cs N sc e v)
    | none => false)
  | .own i e, .Assign ts v _ => (match name1 ts with
    | some (x, p) => nameB N true sc i (.Name x p) && (setB e && okE nm cs N sc e v)
    | none => false)
  | .heap i e, .Assign ts v _ => (match name1 ts with
    | some (x, p) => nameB N true sc i (.Name x p) && (setB e && okE nm cs N sc e v)
    | none => false)
  | .mv i j, .Assign ts v _ => (match name1 ts with
    | some (x, p) => nameB N true sc i (.Name x p) && okE nm cs N sc (.var j) v
    | none => false)
  | .unp is e, .Assign ts v _ => (match tup1 ts with
    | some (es, _, _) => namesB N true sc is es && !isTupE v && okE nm cs N sc e v
    | none => false)
  | .putO i k e, .Assign ts v _ => (match sub1 ts with
    | some (x, y, _) => okE nm cs N sc (.var i) x && okE nm cs N sc k y && !isTupE v && okE nm cs N sc e v
    | none => false)
  | .putL o k e, .Assign ts v _ => (match sub1 ts with
    | some (x, y, _) => okE nm cs N sc o x && okE nm cs N sc k y && !isTupE v && okE nm cs N sc e v
    | none => false)
  | .app i e, .Expr c _ => (match meth1 c with
    | some (x, a, ap, v, cp) => (ap.endLine == cp.line) && decide (a = ("append" : Str)) && okE nm cs N sc (.var i) x && okE nm cs N sc e v
    | none => false)
  | .ext i e, .Expr c _ => (match meth1 c with
    | some (x, a, ap, v, cp) => (ap.endLine == cp.line) && decide (a = ("extend" : Str)) && okE nm cs N sc (.var i) x && okE nm cs N sc e v
    | none => false)
  | .appL o e, .Expr c _ => (match meth1 c with
    | some (x, a, ap, v, cp) => (ap.endLine == cp.line) && decide (a = ("append" : Str)) && okE nm cs N sc o x && okE nm cs N sc e v
    | none => false)
  | .expr e, .Expr v _ => isCall v && okE nm cs N sc e v
  | .ret e, .Return (some v) _ => okE nm cs N sc e v
  | .retV i, .Return (some v) _ => okE nm cs N sc (.var i) v
  | .retN, .Return none _ => true
  | .ife c a b, .If z x y _ => tst c && okE nm cs N sc c z && okSs sc a x && okSs sc b y
  | .for_ t it b, .For tg iter body [] _ => tgB N true sc t tg && okI nm cs N sc it iter && okSs sc b body && itTg it tg
  | .whl c b, .While z x [] _ => tst c && okE nm cs N sc c z && okSs sc b x
  | .par i j a b, .Assign ts v _ => (match par2 ts v with
    | some (x, px, y, py, _, _, e, f, _, _) => decide (i ≠ j) && nameB N true sc i (.Name x px) && nameB N true sc j (.Name y py) && okEs nm cs N sc (.cons a (.cons b .nil)) [e, f] && (parL sc x px y py e f || parN sc x y)
    | none => false)
  | .dputO i k e, .Assign ts v _ => (match sub1 ts with
    | some (x, y, _) => okE nm cs N sc (.var i) x && okE nm cs N sc k y && !isTupE v && okE nm cs N sc e v
    | none => false)
  | .dsetO i k e, .Expr c _ => (match meth2 c with
    | some (x, a, ap, v, u, cp) => (ap.endLine == cp.line) && decide (a = ("setdefault" : Str)) && okE nm cs N sc (.var i) x && okE nm cs N sc k v && okE nm cs N sc e u
    | none => false)
  | .never, _ => true
  | _, _ => false
def okSs (sc : Scope) : Ss F → List Stmt → Bool
  | .nil, [] => true
  | .cons (.frz _) ss, xs => okSs sc ss xs
  | .cons s ss, x :: xs => okS sc s x && okSs sc ss xs
  | _, _ => false
end
def nodupB : List Str → Bool
  | [] => true
  | x :: l => !(l.contains x) && nodupB l
end
end
end EV

set_option maxRecDepth 100000
set_option maxHeartbeats 2000000
namespace EV
open PySem PySem.Spec PyProof.Rows L2
/-! ### worlds -/
/-- where the objects of the store stand; addresses that no value may name as a list; the store; the heap -/
structure Wd where
  ro : List Addr
  fb : List Addr
  st : Sto
  H : Hp
/-- the script: frozen, or written -/
def ScrAt (K : PySem.W.Frag) (H : Hp) (a : Addr) (xs : List V) : Prop := (∃ o, H a = some (.frz o (.lst xs))) ∨
    ∃ (o : Obj) (its : Array Value) (n : Nat), K.lookup a = some o ∧ o.cls = .type "list" ∧ o.dict = none ∧ o.data = .seq its n ∧ its.size ≤ sizeLine ∧ Vals xs its.toList
theorem ScrAt.sq {K : PySem.W.Frag} {H : Hp} {a : Addr} {xs : List V} (h : ScrAt K H a xs) : SqL K H a xs := by
  rcases h with ⟨o, h⟩ | h
  · exact .inl (.inr ⟨o, h⟩)
  · exact .inr h
/-- what stands at an address, of these values -/
def Ct.ho : Ct → List V → HO
  | .lst _, us => .lst us
  | .dic ks _, us => .dK (ks.zip us)
  | .dit ks _, us => .dT (ks.zip us)
def Ct.wf : Ct → Prop
  | .lst _ => True
  | .dic ks l => ks.length = l.length
  | .dit ks l => ks.length = l.length
/-- may stand as an object that is written -/
def Mut : HO → Prop
  | .lst _ => True
  | .dK _ => True
  | .dT _ => True
  | .ins _ _ _ => True
  | _ => False
theorem Ct.mut (c : Ct) (us : List V) : Mut (c.ho us) := by cases c <;> trivial
theorem Mut.tup {xs : List V} (h : Mut (.tup xs)) : False := h
theorem Mut.frz {o : Obj} {u : HO} (h : Mut (.frz o u)) : False := h
theorem Mut.own {x : Addr} (h : Mut (.own x)) : False := h
mutual
inductive RA (K : PySem.W.Frag) (ro fb : List Addr) (H : Hp) : AV → V → Prop
  | non : RA K ro fb H .non .non
  | bl (b : Bool) : RA K ro fb H (.bl b) (.bl b)
  | int (i : Int) : RA K ro fb H (.int i) (.int i)
  | str (x : Str) : RA K ro fb H (.str x) (.str x)
  | tup {a : Addr} {vs : List V} {l : List AV} : SqT K H a vs → RAs K ro fb H l vs → RA K ro fb H (.tup l) (.ref a)
  | lst {a : Addr} {vs : List V} {l : List AV} : H a = some (.lst vs) → a ∉ fb → RAs K ro fb H l vs → RA K ro fb H (.lst l) (.ref a)
  | scr {a : Addr} {l : List Int} : ScrAt K H a (l.map V.int) → RA K ro fb H (.scr l) (.ref a)
  | loc {a : Addr} {n : Nat} : ro[n]? = some a → RA K ro fb H (.loc n) (.ref a)
  | dic {a : Addr} {vs : List V} {ks : List Key} {l : List AV} : H a = some (.dK (ks.zip vs)) → a ∉ fb → ks.length = l.length → RAs K ro fb H l vs → RA K ro fb H (.dic ks l) (.ref a)
  | dit {a : Addr} {vs : List V} {ks : List (List Key)} {l : List AV} : H a = some (.dT (ks.zip vs)) → a ∉ fb → ks.length = l.length → RAs K ro fb H l vs → RA K ro fb H (.dit ks l) (.ref a)
inductive RAs (K : PySem.W.Frag) (ro fb : List Addr) (H : Hp) : List AV → List V → Prop
  | nil : RAs K ro fb H [] []
  | cons {a : AV} {v : V} {l : List AV} {vs : List V} : RA K ro fb H a v → RAs K ro fb H l vs → RAs K ro fb H (a :: l) (v :: vs)
end
section
variable {K : PySem.W.Frag} {ro ro' fb fb' : List Addr} {H H' : Hp}
mutual
theorem RA.mono (hT : ∀ a vs, SqT K H a vs → SqT K H' a vs) (hL : ∀ a o, H a = some o → Mut o → a ∉ fb → H' a = some o ∧ a ∉ fb') (hS : ∀ a vs, ScrAt K H a vs → ScrAt K H' a vs)
    (hr : ∀ (n : Nat) (a : Addr), ro[n]? = some a → ro'[n]? = some a) : ∀ (x : AV) (v : V), RA K ro fb H x v → RA K ro' fb' H' x v
  | .non, _, h => by cases h; exact .non
  | .bl _, _, h => by cases h; exact .bl _
  | .int _, _, h => by cases h; exact .int _
  | .str _, _, h => by cases h; exact .str _
  | .tup l, _, h => by
    cases h with
    | tup h1 h2 => exact .tup (hT _ _ h1) (RAs.mono hT hL hS hr l _ h2)
  | .lst l, _, h => by
    cases h with
    | lst h1 h2 h3 => exact .lst (hL _ _ h1 trivial h2).1 (hL _ _ h1 trivial h2).2 (RAs.mono hT hL hS hr l _ h3)
  | .dic _ l, _, h => by
    cases h with
    | dic h1 h2 h4 h3 => exact .dic (hL _ _ h1 trivial h2).1 (hL _ _ h1 trivial h2).2 h4 (RAs.mono hT hL hS hr l _ h3)
  | .dit _ l, _, h => by
    cases h with
    | dit h1 h2 h4 h3 => exact .dit (hL _ _ h1 trivial h2).1 (hL _ _ h1 trivial h2).2 h4 (RAs.mono hT hL hS hr l _ h3)
  | .scr _, _, h => by
    cases h with
    | scr h1 => exact .scr (hS _ _ h1)
  | .loc _, _, h => by
    cases h with
    | loc h1 => exact .loc (hr _ _ h1)
theorem RAs.mono (hT : ∀ a vs, SqT K H a vs → SqT K H' a vs) (hL : ∀ a o, H a = some o → Mut o → a ∉ fb → H' a = some o ∧ a ∉ fb') (hS : ∀ a vs, ScrAt K H a vs → ScrAt K H' a vs)
    (hr : ∀ (n : Nat) (a : Addr), ro[n]? = some a → ro'[n]? = some a) : ∀ (l : List AV) (vs : List V), RAs K ro fb H l vs → RAs K ro' fb' H' l vs
  | [], _, h => by cases h; exact .nil
  | x :: l, _, h => by
    cases h with
    | cons h1 h2 => exact .cons (RA.mono hT hL hS hr x _ h1) (RAs.mono hT hL hS hr l _ h2)
end
theorem RAs.length : ∀ {l : List AV} {vs : List V}, RAs K ro fb H l vs → l.length = vs.length
  | _, _, .nil => rfl
  | _, _, .cons _ h => congrArg Nat.succ (RAs.length h)
theorem RAs.get : ∀ {l : List AV} {vs : List V} {i : Nat} {x : AV}, RAs K ro fb H l vs → l[i]? = some x → ∃ v, vs[i]? = some v ∧ RA K ro fb H x v
  | _, _, _, _, .nil, e => by simp at e
  | _, _, 0, _, .cons r _, e => by simp at e; subst e; exact ⟨_, rfl, r⟩
  | _, _, i + 1, x, .cons _ t, e => by
    obtain ⟨u, h1, h2⟩ := RAs.get (i := i) (x := x) t (by simpa using e)
    exact ⟨u, by simpa using h1, h2⟩
theorem RAs.getV {l : List AV} {vs : List V} {i : Nat} {v : V} (h : RAs K ro fb H l vs) (e : vs[i]? = some v) : ∃ x, l[i]? = some x ∧ RA K ro fb H x v := by
  have hl := h.length
  obtain ⟨hi, _⟩ := List.getElem?_eq_some_iff.mp e
  have e2 : l[i]? = some (l[i]'(by omega)) := by simp
  obtain ⟨u, h1, h2⟩ := h.get e2
  rw [e] at h1; cases h1
  exact ⟨_, e2, h2⟩
theorem RAs.append : ∀ {l m : List AV} {vs ws : List V}, RAs K ro fb H l vs → RAs K ro fb H m ws → RAs K ro fb H (l ++ m) (vs ++ ws)
  | _, _, _, _, .nil, s => s
  | _, _, _, _, .cons r t, s => .cons r (RAs.append t s)
theorem RAs.take : ∀ {l : List AV} {vs : List V} (n : Nat), RAs K ro fb H l vs → RAs K ro fb H (l.take n) (vs.take n)
  | _, _, 0, _ => by simp; exact .nil
  | _, _, _ + 1, .nil => .nil
  | _, _, n + 1, .cons r t => .cons r (RAs.take n t)
theorem RAs.drop : ∀ {l : List AV} {vs : List V} (n : Nat), RAs K ro fb H l vs → RAs K ro fb H (l.drop n) (vs.drop n)
  | _, _, 0, r => r
  | _, _, _ + 1, .nil => .nil
  | _, _, n + 1, .cons _ t => RAs.drop n t
theorem RAs.reverse : ∀ {l : List AV} {vs : List V}, RAs K ro fb H l vs → RAs K ro fb H l.reverse vs.reverse
  | _, _, .nil => .nil
  | _, _, .cons r t => by
    rw [List.reverse_cons, List.reverse_cons]
    exact (RAs.reverse t).append (.cons r .nil)
theorem RAs.set {x : AV} {v : V} (r : RA K ro fb H x v) : ∀ {l : List AV} {vs : List V} (i : Nat), RAs K ro fb H l vs → RAs K ro fb H (l.set i x) (vs.set i v)
  | _, _, _, .nil => .nil
  | _, _, 0, .cons _ t => .cons r t
  | _, _, i + 1, .cons q t => .cons q (RAs.set r i t)
theorem RAs.cut {l : List AV} {vs : List V} (lo hi : Option Int) (h : RAs K ro fb H l vs) : RAs K ro fb H (cutA l lo hi) (cutV vs lo hi) := by
  unfold cutA cutV
  rw [h.length]
  exact (h.drop _).take _
theorem RAs.ints : ∀ {l : List Int}, RAs K ro fb H (l.map .int) (l.map V.int)
  | [] => .nil
  | i :: l => .cons (.int i) RAs.ints
theorem RAs.of_ints : ∀ {l : List AV} {vs : List V} {ns : List Int}, RAs K ro fb H l vs → intsOf l = some ns → vs = ns.map V.int
  | _, _, ns, .nil, e => by
    have e' : some [] = some ns := e
    cases e'; rfl
  | _, _, ns, .cons (a := a) (l := l) r t, e => by
    cases a with
    | int i =>
      cases r
      have e' : (intsOf l).map (i :: ·) = some ns := e
      cases q : intsOf l with
      | none => rw [q] at e'; cases e'
      | some ms =>
        rw [q] at e'
        have e2 : i :: ms = ns := Option.some.inj e'
        subst e2
        rw [RAs.of_ints t q]
        rfl
    | _ => cases e
end

/-- from the one world to the other -/
structure Ext (w w' : Wd) : Prop where
  ro : ∃ l, w'.ro = w.ro ++ l ∧ ∀ a ∈ l, w.H a = none
  keep : ∀ b o, w.H b = some o → b ∉ w.ro → w'.H b = some o
  tup : ∀ b xs, w.H b = some (.tup xs) → w'.H b = some (.tup xs)
  frz : ∀ b o u, w.H b = some (.frz o u) → w'.H b = some (.frz o u)
  own : ∀ b x, w.H b = some (.own x) → w'.H b = some (.own x)
  dom : ∀ b, w'.H b = none → w.H b = none
  fb : ∀ b ∈ w.fb, b ∈ w'.fb
  new : ∀ b ∈ w'.fb, b ∈ w.fb ∨ w.H b = none
/-- what stands in the store -/
def RCt (K : PySem.W.Frag) (w : Wd) (a : Addr) (c : Ct) : Prop := ∃ us, w.H a = some (c.ho us) ∧ c.wf ∧ RAs K w.ro w.fb w.H c.vals us
def RO (K : PySem.W.Frag) (w : Wd) (a : Addr) : Ob → Prop
  | .ct c => RCt K w a c
  | .ins c ns l => ∃ dx us, w.H a = some (.ins (He.ga K c) dx (ns.zip us)) ∧ ns.length = l.length ∧ w.H dx = some (.own a) ∧ RAs K w.ro w.fb w.H l us
structure WOK (K : PySem.W.Frag) (w : Wd) : Prop where
  sub : ∀ a ∈ w.ro, a ∈ w.fb
  dom : ∀ a ∈ w.fb, w.H a ≠ none
  nd : w.ro.Nodup
  len : w.ro.length = w.st.ob.length
  obj : ∀ (n : Nat) (o : Ob) (a : Addr), w.st.ob[n]? = some o → w.ro[n]? = some a → RO K w a o
abbrev RW (K : PySem.W.Frag) (w : Wd) (x : AV) (v : V) : Prop := RA K w.ro w.fb w.H x v
abbrev RWs (K : PySem.W.Frag) (w : Wd) (l : List AV) (vs : List V) : Prop := RAs K w.ro w.fb w.H l vs
section
variable {K : PySem.W.Frag} {w w' w1 w2 : Wd}
theorem Ext.refl (w : Wd) : Ext w w := ⟨⟨[], by simp, by simp⟩, fun _ _ h _ => h, fun _ _ h => h, fun _ _ _ h => h, fun _ _ h => h, fun _ h => h, fun _ h => h, fun _ h => .inl h⟩
theorem Ext.noro (e : Ext w w') {b : Addr} (h : w.H b ≠ none) (n : b ∉ w.ro) : b ∉ w'.ro := by
  obtain ⟨l, e1, e2⟩ := e.ro
  rw [e1]
  intro q
  rcases List.mem_append.mp q with q | q
  · exact n q
  · exact h (e2 b q)
theorem Ext.trans (e : Ext w w1) (e' : Ext w1 w2) : Ext w w2 where
  ro := by
    obtain ⟨l, h1, h2⟩ := e.ro
    obtain ⟨m, h3, h4⟩ := e'.ro
    refine ⟨l ++ m, by rw [h3, h1, List.append_assoc], fun a ha => ?_⟩
    rcases List.mem_append.mp ha with q | q
    · exact h2 a q
    · exact e.dom a (h4 a q)
  keep := fun b o h n => e'.keep b o (e.keep b o h n) (e.noro (by rw [h]; simp) n)
  tup := fun b xs h => e'.tup b xs (e.tup b xs h)
  frz := fun b o u h => e'.frz b o u (e.frz b o u h)
  own := fun b x h => e'.own b x (e.own b x h)
  dom := fun b h => e.dom b (e'.dom b h)
  fb := fun b h => e'.fb b (e.fb b h)
  new := fun b h => by
    rcases e'.new b h with q | q
    · exact e.new b q
    · exact .inr (e.dom b q)
theorem Ext.ix (e : Ext w w') {n : Nat} {a : Addr} (h : w.ro[n]? = some a) : w'.ro[n]? = some a := by
  obtain ⟨l, h1, _⟩ := e.ro
  rw [h1, List.getElem?_append_left (List.getElem?_eq_some_iff.mp h).1]
  exact h
theorem sqT_ext (e : Ext w w') {a : Addr} {xs : List V} (h : SqT K w.H a xs) : SqT K w'.H a xs := by
  rcases h with (h | ⟨o, h⟩) | h
  · exact .inl (.inl (e.tup _ _ h))
  · exact .inl (.inr ⟨o, e.frz _ _ _ h⟩)
  · exact .inr h
theorem scr_ext (e : Ext w w') {a : Addr} {xs : List V} (h : ScrAt K w.H a xs) : ScrAt K w'.H a xs := by
  rcases h with ⟨o, h⟩ | h
  · exact .inl ⟨o, e.frz _ _ _ h⟩
  · exact .inr h
theorem lst_ext (ok : WOK K w) (e : Ext w w') {a : Addr} {o : HO} (h : w.H a = some o) (n : a ∉ w.fb) : w'.H a = some o ∧ a ∉ w'.fb := by
  refine ⟨e.keep _ _ h fun q => n (ok.sub _ q), fun q => ?_⟩
  rcases e.new _ q with q | q
  · exact n q
  · rw [h] at q; cases q
theorem RA.ext (ok : WOK K w) (e : Ext w w') {x : AV} {v : V} (h : RW K w x v) : RW K w' x v :=
  RA.mono (fun _ _ q => sqT_ext e q) (fun _ _ q _ n => lst_ext ok e q n) (fun _ _ q => scr_ext e q) (fun _ _ q => e.ix q) x v h
theorem RAs.ext (ok : WOK K w) (e : Ext w w') {l : List AV} {vs : List V} (h : RWs K w l vs) : RWs K w' l vs :=
  RAs.mono (fun _ _ q => sqT_ext e q) (fun _ _ q _ n => lst_ext ok e q n) (fun _ _ q => scr_ext e q) (fun _ _ q => e.ix q) l vs h
end

theorem RO.mono {K : PySem.W.Frag} {w w' : Wd} {a : Addr} {o : Ob} (hH : ∀ u, w.H a = some u → Mut u → w'.H a = some u) (hO : ∀ b x, w.H b = some (.own x) → w'.H b = some (.own x)) (hr : ∀ l us, RAs K w.ro w.fb w.H l us → RAs K w'.ro w'.fb w'.H l us) (h : RO K w a o) : RO K w' a o := by
  cases o with
  | ct c =>
    obtain ⟨us, h1, h2, h3⟩ := h
    exact ⟨us, hH _ h1 (c.mut us), h2, hr _ us h3⟩
  | ins c ns l =>
    obtain ⟨dx, us, h1, h2, h3, h4⟩ := h
    exact ⟨dx, us, hH _ h1 trivial, h2, hO _ _ h3, hr _ us h4⟩
theorem RCt.mono {K : PySem.W.Frag} {w w' : Wd} {a : Addr} {c : Ct} (h : RCt K w a c) (hH : ∀ o, w.H a = some o → Mut o → w'.H a = some o) (hr : ∀ us, RAs K w.ro w.fb w.H c.vals us → RAs K w'.ro w'.fb w'.H c.vals us) : RCt K w' a c := by
  obtain ⟨us, h1, h2, h3⟩ := h
  exact ⟨us, hH _ h1 (c.mut us), h2, hr us h3⟩
/-- a result -/
def RR (K : PySem.W.Frag) (w w' : Wd) : R → V → Prop
  | .v a, v => RW K w' a v
  | .tl c, v => ∃ a, v = .ref a ∧ RCt K w' a c ∧ a ∈ w'.fb ∧ a ∉ w'.ro ∧ w.H a = none
  | .bo c, v => ∃ a, v = .ref a ∧ RCt K w' a c ∧ a ∈ w'.fb ∧ a ∉ w'.ro
/-- what it holds -/
def RC (K : PySem.W.Frag) (w : Wd) : R → V → Prop
  | .v (.lst l), v => ∃ a, v = .ref a ∧ RCt K w a (.lst l)
  | .v (.dic ks l), v => ∃ a, v = .ref a ∧ RCt K w a (.dic ks l)
  | .v (.dit ks l), v => ∃ a, v = .ref a ∧ RCt K w a (.dit ks l)
  | .v a, v => RW K w a v
  | .tl c, v => ∃ a, v = .ref a ∧ RCt K w a c
  | .bo c, v => ∃ a, v = .ref a ∧ RCt K w a c
/-- a def's entry's names -/
structure REnv (K : PySem.W.Frag) (w0 w : Wd) (env : Env) (σ : L2.St) : Prop where
  len : env.length = σ.length
  val : ∀ (i : Nat) (a : AV), env[i]? = some (.v a) → ∃ v, σ[i]? = some (some v) ∧ RW K w a v
  own : ∀ (i : Nat) (c : Ct), env[i]? = some (.own c) → ∃ a, σ[i]? = some (some (.ref a)) ∧ RCt K w a c ∧ a ∈ w.fb ∧ a ∉ w.ro ∧ w0.H a = none
  inj : ∀ (i j : Nat) (l m : Ct) (a : Addr), env[i]? = some (.own l) → env[j]? = some (.own m) → σ[i]? = some (some (.ref a)) → σ[j]? = some (some (.ref a)) → i = j
section
variable {K : PySem.W.Frag} {w w' w0 w1 w2 : Wd} {env : Env} {σ : L2.St}
theorem RCt.at {a : Addr} {c : Ct} (h : RCt K w a c) : w.H a ≠ none := by
  obtain ⟨us, h1, _⟩ := h
  rw [h1]; simp
theorem RCt.ext (ok : WOK K w) (e : Ext w w') {a : Addr} {c : Ct} (n : a ∉ w.ro) (h : RCt K w a c) : RCt K w' a c :=
  h.mono (fun _ q _ => e.keep _ _ q n) fun _ q => q.ext ok e
theorem RR.ext (e1 : Ext w w1) (ok : WOK K w1) (e : Ext w1 w2) {r : R} {v : V} (h : RR K w w1 r v) : RR K w w2 r v := by
  cases r with
  | v a => exact RA.ext ok e h
  | tl l =>
    obtain ⟨a, rfl, h1, h3, h4, h5⟩ := h
    exact ⟨a, rfl, h1.ext ok e h4, e.fb _ h3, e.noro h1.at h4, h5⟩
  | bo l =>
    obtain ⟨a, rfl, h1, h3, h4⟩ := h
    exact ⟨a, rfl, h1.ext ok e h4, e.fb _ h3, e.noro h1.at h4⟩
theorem RR.back (e : Ext w w1) {r : R} {v : V} (h : RR K w1 w2 r v) : RR K w w2 r v := by
  cases r with
  | v a => exact h
  | tl l =>
    obtain ⟨a, rfl, q1, q3, q4, q5⟩ := h
    exact ⟨a, rfl, q1, q3, q4, e.dom _ q5⟩
  | bo l => exact h
theorem RW.rc {a : AV} {v : V} (h : RW K w a v) : RC K w (.v a) v := by
  cases a with
  | lst l =>
    cases h with
    | lst h1 h2 h3 => exact ⟨_, rfl, _, h1, trivial, h3⟩
  | dic ks l =>
    cases h with
    | dic h1 h2 h4 h3 => exact ⟨_, rfl, _, h1, h4, h3⟩
  | dit ks l =>
    cases h with
    | dit h1 h2 h4 h3 => exact ⟨_, rfl, _, h1, h4, h3⟩
  | _ => exact h
theorem Ct.rc {c : Ct} {v : V} (h : ∃ a, v = .ref a ∧ RCt K w a c) : RC K w (.v c.av) v := by
  cases c <;> exact h
theorem RR.rc {r : R} {v : V} (h : RR K w w1 r v) : RC K w1 (fz r) v := by
  cases r with
  | v a => exact RW.rc h
  | tl l =>
    obtain ⟨a, rfl, h1, _⟩ := h
    exact Ct.rc ⟨a, rfl, h1⟩
  | bo l =>
    obtain ⟨a, rfl, h1, _⟩ := h
    exact ⟨a, rfl, h1⟩
theorem REnv.ext (ok : WOK K w) (e : Ext w w') (h : REnv K w0 w env σ) : REnv K w0 w' env σ where
  len := h.len
  val := fun i a q => by
    obtain ⟨v, h1, h2⟩ := h.val i a q
    exact ⟨v, h1, h2.ext ok e⟩
  own := fun i l q => by
    obtain ⟨a, h1, h2, h4, h5, h6⟩ := h.own i l q
    exact ⟨a, h1, h2.ext ok e h5, e.fb _ h4, e.noro h2.at h5, h6⟩
  inj := h.inj
/-- a list, a dict that nobody writes -/
theorem Ct.fr {w : Wd} {a : Addr} {c : Ct} (h : RCt K w a c) (n : a ∉ w.fb) : RW K w c.av (.ref a) := by
  obtain ⟨us, h1, h2, h3⟩ := h
  cases c with
  | lst l => exact .lst h1 n h3
  | dic ks l => exact .dic h1 n h2 h3
  | dit ks l => exact .dit h1 n h2 h3
/-- a just made list is let be -/
theorem freeze (e : Ext w w1) (ok : WOK K w1) {r : R} {v : V} (h : RR K w w1 r v) (kf : ∀ a ∈ w.fb, w.H a ≠ none) : ∃ w2, w2.H = w1.H ∧ w2.st = w1.st ∧ Ext w w2 ∧ WOK K w2 ∧ RR K w w2 (fz r) v := by
  cases r with
  | v a => exact ⟨w1, rfl, rfl, e, ok, h⟩
  | bo l => exact ⟨w1, rfl, rfl, e, ok, h⟩
  | tl l =>
    obtain ⟨a, rfl, h1, h3, h4, h5⟩ := h
    have m : ∀ (l : List AV) (vs : List V), RAs K w1.ro w1.fb w1.H l vs → RAs K w1.ro (w1.fb.filter (· ≠ a)) w1.H l vs := fun l vs q =>
      RAs.mono (fun _ _ q => q) (fun b _ q _ n => ⟨q, fun z => n (List.mem_filter.mp z).1⟩) (fun _ _ q => q) (fun _ _ q => q) l vs q
    refine ⟨⟨w1.ro, w1.fb.filter (· ≠ a), w1.st, w1.H⟩, rfl, rfl, ⟨e.ro, e.keep, e.tup, e.frz, e.own, e.dom, fun b hb => ?_, fun b hb => e.new b (List.mem_filter.mp hb).1⟩, ⟨fun b hb => ?_, fun b hb => ok.dom b (List.mem_filter.mp hb).1, ok.nd, ok.len, fun n o b q1 q2 => ?_⟩, ?_⟩
    · refine List.mem_filter.mpr ⟨e.fb b hb, ?_⟩
      have : b ≠ a := by rintro rfl; exact kf b hb h5
      simpa using this
    · refine List.mem_filter.mpr ⟨ok.sub b hb, ?_⟩
      have : b ≠ a := by rintro rfl; exact h4 hb
      simpa using this
    · exact RO.mono (w := w1) (fun _ h _ => h) (fun _ _ h => h) (fun l us q => m l us q) (ok.obj n o b q1 q2)
    · exact Ct.fr (w := ⟨w1.ro, w1.fb.filter (· ≠ a), w1.st, w1.H⟩) (h1.mono (fun _ q _ => q) fun us q => m _ us q) (by simp)
/-- a new object that nobody writes through the store -/
theorem Ext.laid {p : Addr} {o : HO} (hp : w.H p = none) : Ext w ⟨w.ro, w.fb, w.st, upd w.H p o⟩ :=
  ⟨⟨[], by simp, by simp⟩, fun b _ h _ => by show upd w.H p o b = _; rw [upd_ne (ne_of_none h hp)]; exact h, fun b _ h => by show upd w.H p o b = _; rw [upd_ne (ne_of_none h hp)]; exact h,
    fun b _ _ h => by show upd w.H p o b = _; rw [upd_ne (ne_of_none h hp)]; exact h, fun b _ h => by show upd w.H p o b = _; rw [upd_ne (ne_of_none h hp)]; exact h, fun b h => by
      by_cases q : b = p
      · rw [q]; exact hp
      · have h' : upd w.H p o b = none := h
        rw [upd_ne q] at h'; exact h', fun _ h => h, fun _ h => .inl h⟩
theorem RAs.laid (ok : WOK K w) {p : Addr} {o : HO} (hp : w.H p = none) {l : List AV} {vs : List V} (h : RWs K w l vs) : RAs K w.ro w.fb (upd w.H p o) l vs := RAs.ext ok (Ext.laid (o := o) hp) h
theorem WOK.laid (ok : WOK K w) {p : Addr} {o : HO} (hp : w.H p = none) : WOK K ⟨w.ro, w.fb, w.st, upd w.H p o⟩ := by
  refine ⟨ok.sub, fun a h q => ok.dom a h ((Ext.laid (o := o) hp).dom a q), ok.nd, ok.len, fun n ob a h1 h2 => ?_⟩
  have k : ∀ b u, w.H b = some u → upd w.H p o b = some u := fun b u z => by rw [upd_ne (ne_of_none z hp)]; exact z
  exact RO.mono (fun u z _ => k _ _ z) (fun _ _ z => k _ _ z) (fun _ _ q => q.laid ok hp) (ok.obj n ob a h1 h2)
/-- a new list, a new dict -/
theorem Ext.laidF {p : Addr} {o : HO} (hp : w.H p = none) : Ext w ⟨w.ro, p :: w.fb, w.st, upd w.H p o⟩ :=
  have e := Ext.laid (w := w) (o := o) hp
  ⟨e.ro, e.keep, e.tup, e.frz, e.own, e.dom, fun _ h => List.mem_cons_of_mem _ h, fun b h => by
    rcases List.mem_cons.mp h with rfl | h
    · exact .inr hp
    · exact .inl h⟩
theorem WOK.laidF (ok : WOK K w) {p : Addr} {o : HO} (hp : w.H p = none) : WOK K ⟨w.ro, p :: w.fb, w.st, upd w.H p o⟩ := by
  have ok2 := ok.laid (o := o) hp
  have e := Ext.laidF (w := w) (o := o) hp
  refine ⟨fun b h => List.mem_cons_of_mem _ (ok.sub b h), fun a h => ?_, ok.nd, ok.len, fun n ob a h1 h2 => ?_⟩
  · rcases List.mem_cons.mp h with rfl | h
    · show upd w.H a o a ≠ none
      rw [upd_same]; simp
    · exact ok2.dom a h
  · have k : ∀ b u, w.H b = some u → upd w.H p o b = some u := fun b u z => by rw [upd_ne (ne_of_none z hp)]; exact z
    exact RO.mono (fun u z _ => k _ _ z) (fun _ _ z => k _ _ z) (fun _ _ q => q.ext ok e) (ok.obj n ob a h1 h2)
theorem noin (ok : WOK K w) {p : Addr} (hp : w.H p = none) : p ∉ w.ro := fun q => ok.dom p (ok.sub p q) hp
/-- a result of an operation that only lays new objects: a tuple .. -/
theorem res_tup (ok : WOK K w) {p : Addr} (hp : w.H p = none) {l : List AV} {vs : List V} (h : RWs K w l vs) : RA K w.ro w.fb (upd w.H p (.tup vs)) (.tup l) (.ref p) := .tup (.inl (.inl upd_same)) (h.laid ok hp)
/-- .. a list, a dict -/
theorem res_ct (ok : WOK K w) {p : Addr} (hp : w.H p = none) {c : Ct} {vs : List V} (hw : c.wf) (h : RWs K w c.vals vs) : RR K w ⟨w.ro, p :: w.fb, w.st, upd w.H p (c.ho vs)⟩ (.tl c) (.ref p) :=
  ⟨p, rfl, ⟨vs, upd_same, hw, h.ext ok (Ext.laidF hp)⟩, List.mem_cons_self, noin ok hp, hp⟩
end
end EV

set_option maxRecDepth 100000
set_option maxHeartbeats 2000000
namespace EV
open PySem PySem.Spec PyProof.Rows L2
/-! ### a list that a name owns is written -/
section
variable {K : PySem.W.Frag} {w w0 w2 : Wd} {D : Addr} {o1 o2 : HO}
/-- the world behind it -/
def Wd.own (w : Wd) (D : Addr) (o : HO) : Wd := ⟨w.ro, w.fb, w.st, upd w.H D o⟩
theorem own_no {H : Hp} (hD : H D = some o1) (m : Mut o1) {a : Addr} {o : HO} (q : H a = some o) (n : ¬ Mut o) : upd H D o2 a = some o := by
  rw [upd_ne (ne_of q hD (by rintro rfl; exact n m))]; exact q
theorem own_ra (hD : w.H D = some o1) (m : Mut o1) (hf : D ∈ w.fb) {x : AV} {v : V} (h : RW K w x v) : RW K (w.own D o2) x v := by
  refine RA.mono (fun a xs q => ?_) (fun a xs q _ n => ?_) (fun a xs q => ?_) (fun _ _ q => q) x v h
  · rcases q with (q | ⟨o, q⟩) | q
    · exact .inl (.inl (own_no hD m q Mut.tup))
    · exact .inl (.inr ⟨o, own_no hD m q Mut.frz⟩)
    · exact .inr q
  · refine ⟨?_, n⟩
    show upd w.H D o2 a = _
    rw [upd_ne (by rintro rfl; exact n hf)]; exact q
  · rcases q with ⟨o, q⟩ | q
    · exact .inl ⟨o, own_no hD m q Mut.frz⟩
    · exact .inr q
theorem own_ras (hD : w.H D = some o1) (m : Mut o1) (hf : D ∈ w.fb) : ∀ {l : List AV} {xs : List V}, RWs K w l xs → RWs K (w.own D o2) l xs
  | _, _, .nil => .nil
  | _, _, .cons r t => .cons (own_ra hD m hf r) (own_ras hD m hf t)
theorem own_ok (ok : WOK K w) (hD : w.H D = some o1) (m : Mut o1) (hf : D ∈ w.fb) (hr : D ∉ w.ro) : WOK K (w.own D o2) := by
  refine ⟨ok.sub, fun a ha => ?_, ok.nd, ok.len, fun n o a h1 h2 => ?_⟩
  · show upd w.H D o2 a ≠ none
    by_cases e : a = D
    · subst e; rw [upd_same]; simp
    · rw [upd_ne e]; exact ok.dom a ha
  · have ne : a ≠ D := by rintro rfl; exact hr (List.mem_of_getElem? h2)
    have h2' : w.ro[n]? = some a := h2
    have h1' : w.st.ob[n]? = some o := h1
    have z := ok.obj n o a h1' h2'
    cases o with
    | ct c =>
      obtain ⟨us, z1, z2, z3⟩ := z
      exact ⟨us, by show upd w.H D o2 a = _; rw [upd_ne ne]; exact z1, z2, own_ras hD m hf z3⟩
    | ins c ns l =>
      obtain ⟨dx, us, z1, z2, z3, z4⟩ := z
      exact ⟨dx, us, by show upd w.H D o2 a = _; rw [upd_ne ne]; exact z1, z2, own_no hD m z3 Mut.own, own_ras hD m hf z4⟩
theorem own_ext (e : Ext w2 w) (hD : w.H D = some o1) (m : Mut o1) (h2 : w2.H D = none) : Ext w2 (w.own D o2) where
  ro := e.ro
  keep := fun b o h n => by
    show upd w.H D o2 b = _
    rw [upd_ne (ne_of_none h h2)]; exact e.keep b o h n
  tup := fun b xs h => own_no hD m (e.tup b xs h) Mut.tup
  frz := fun b o u h => own_no hD m (e.frz b o u h) Mut.frz
  own := fun b x h => own_no hD m (e.own b x h) Mut.own
  dom := fun b h => by
    have h : upd w.H D o2 b = none := h
    by_cases q : b = D
    · subst q; rw [upd_same] at h; cases h
    · rw [upd_ne q] at h; exact e.dom b h
  fb := e.fb
  new := e.new
end
section
variable {K : PySem.W.Frag} {w w0 w1 : Wd}
/-- the world with a new object of the store -/
def Wd.al (w : Wd) (D : Addr) (o : Ob) : Wd := ⟨w.ro ++ [D], w.fb, ⟨w.st.fl, w.st.ob ++ [o]⟩, w.H⟩
theorem al_ix {D : Addr} (n : Nat) (a : Addr) (q : w.ro[n]? = some a) : (w.ro ++ [D])[n]? = some a := by
  rw [List.getElem?_append_left (List.getElem?_eq_some_iff.mp q).1]; exact q
theorem al_ra {D : Addr} {o : Ob} {x : AV} {v : V} (h : RW K w x v) : RW K (w.al D o) x v := RA.mono (fun _ _ q => q) (fun _ _ q _ n => ⟨q, n⟩) (fun _ _ q => q) al_ix x v h
theorem al_ras {D : Addr} {o : Ob} {x : List AV} {v : List V} (h : RWs K w x v) : RWs K (w.al D o) x v := RAs.mono (fun _ _ q => q) (fun _ _ q _ n => ⟨q, n⟩) (fun _ _ q => q) al_ix x v h
theorem al_ro {D a : Addr} {o o' : Ob} (h : RO K w a o') : RO K (w.al D o) a o' := RO.mono (w := w) (fun _ h _ => h) (fun _ _ h => h) (fun _ _ h => al_ras h) h
theorem al_ok {D : Addr} {o : Ob} (ok : WOK K w) (h : RO K w D o) (h3 : D ∈ w.fb) (h4 : D ∉ w.ro) : WOK K (w.al D o) := by
  refine ⟨fun a ha => ?_, ok.dom, ?_, ?_, fun n o' a q1 q2 => ?_⟩
  · rcases List.mem_append.mp ha with q | q
    · exact ok.sub a q
    · have : a = D := by simpa using q
      subst this; exact h3
  · refine List.nodup_append.mpr ⟨ok.nd, by simp, fun a ha b hb z => ?_⟩
    have : b = D := by simpa using hb
    subst this; subst z; exact h4 ha
  · show (w.ro ++ [D]).length = (w.st.ob ++ [o]).length
    rw [List.length_append, List.length_append, ok.len]
    rfl
  · have q1 : (w.st.ob ++ [o])[n]? = some o' := q1
    have q2 : (w.ro ++ [D])[n]? = some a := q2
    by_cases lt : n < w.st.ob.length
    · rw [List.getElem?_append_left lt] at q1
      rw [List.getElem?_append_left (by rw [ok.len]; exact lt)] at q2
      exact al_ro (ok.obj n o' a q1 q2)
    · have en : n = w.st.ob.length := by
        have := (List.getElem?_eq_some_iff.mp q1).1
        simp at this
        omega
      subst en
      rw [List.getElem?_append_right (Nat.le_refl _), Nat.sub_self] at q1
      rw [← ok.len, List.getElem?_append_right (Nat.le_refl _), Nat.sub_self] at q2
      cases q1
      cases q2
      exact al_ro h
theorem al_ext {D : Addr} {o : Ob} (e : Ext w0 w) (h0 : w0.H D = none) : Ext w0 (w.al D o) := by
  refine ⟨?_, e.keep, e.tup, e.frz, e.own, e.dom, e.fb, e.new⟩
  obtain ⟨r, e1, e2⟩ := e.ro
  refine ⟨r ++ [D], by show w.ro ++ [D] = _; rw [e1, List.append_assoc], fun a ha => ?_⟩
  rcases List.mem_append.mp ha with q | q
  · exact e2 a q
  · have : a = D := by simpa using q
    subst this; exact h0
theorem al_at {D : Addr} {o : Ob} (ok : WOK K w) : (w.al D o).ro[w.st.ob.length]? = some D := by
  show (w.ro ++ [D])[w.st.ob.length]? = some D
  rw [← ok.len, List.getElem?_append_right (Nat.le_refl _), Nat.sub_self]
  rfl
/-- the world with another object in an object's place -/
def Wd.wr (w : Wd) (n : Nat) (D : Addr) (u : HO) (o : Ob) : Wd := ⟨w.ro, w.fb, ⟨w.st.fl, w.st.ob.set n o⟩, upd w.H D u⟩
theorem wr_ra {n : Nat} {D : Addr} {u1 u2 : HO} {o : Ob} (hD : w.H D = some u1) (m : Mut u1) (hf : D ∈ w.fb) {x : AV} {v : V} (h : RW K w x v) : RW K (w.wr n D u2 o) x v := own_ra (o2 := u2) hD m hf h
theorem wr_ras {n : Nat} {D : Addr} {u1 u2 : HO} {o : Ob} (hD : w.H D = some u1) (m : Mut u1) (hf : D ∈ w.fb) {x : List AV} {v : List V} (h : RWs K w x v) : RWs K (w.wr n D u2 o) x v := own_ras (o2 := u2) hD m hf h
theorem wr_ok {n : Nat} {D : Addr} {u1 u2 : HO} {o1 o : Ob} (ok : WOK K w) (hn : w.st.ob[n]? = some o1) (hr : w.ro[n]? = some D) (hD : w.H D = some u1) (m : Mut u1) (h2 : RO K (w.wr n D u2 o) D o) : WOK K (w.wr n D u2 o) := by
  have mem : D ∈ w.ro := List.mem_of_getElem? hr
  have hf : D ∈ w.fb := ok.sub D mem
  refine ⟨ok.sub, fun a ha => ?_, ok.nd, ?_, fun k o' a q1 q2 => ?_⟩
  · show upd w.H D u2 a ≠ none
    by_cases e : a = D
    · subst e; rw [upd_same]; simp
    · rw [upd_ne e]; exact ok.dom a ha
  · show w.ro.length = (w.st.ob.set n o).length
    rw [List.length_set]; exact ok.len
  · have q1 : (w.st.ob.set n o)[k]? = some o' := q1
    have q2 : w.ro[k]? = some a := q2
    by_cases e : n = k
    · subst e
      rw [hr] at q2; cases q2
      rw [List.getElem?_set_self (List.getElem?_eq_some_iff.mp hn).1] at q1
      cases q1
      exact h2
    · rw [List.getElem?_set_ne e] at q1
      have ne : a ≠ D := by
        rintro rfl
        exact e ((List.getElem?_inj (List.getElem?_eq_some_iff.mp hr).1 ok.nd).mp (hr.trans q2.symm))
      have z := ok.obj k o' a q1 q2
      cases o' with
      | ct c =>
        obtain ⟨us, z1, z2, z3⟩ := z
        exact ⟨us, by show upd w.H D u2 a = _; rw [upd_ne ne]; exact z1, z2, own_ras (o2 := u2) hD m hf z3⟩
      | ins c ns l =>
        obtain ⟨dx, us, z1, z2, z3, z4⟩ := z
        exact ⟨dx, us, by show upd w.H D u2 a = _; rw [upd_ne ne]; exact z1, z2, own_no hD m z3 Mut.own, own_ras (o2 := u2) hD m hf z4⟩
theorem wr_ext {n : Nat} {D : Addr} {u1 u2 : HO} {o : Ob} (e : Ext w0 w) (hr : w.ro[n]? = some D) (hD : w.H D = some u1) (m : Mut u1) : Ext w0 (w.wr n D u2 o) := by
  have mem : D ∈ w.ro := List.mem_of_getElem? hr
  have away : ∀ b, b ∉ w0.ro → w0.H b ≠ none → b ≠ D := fun b h1 h2 z => by
    subst z
    obtain ⟨r, e1, e2⟩ := e.ro
    rw [e1] at mem
    rcases List.mem_append.mp mem with q | q
    · exact h1 q
    · exact h2 (e2 b q)
  refine ⟨e.ro, fun b o h1 h2 => ?_, fun b xs h => own_no hD m (e.tup b xs h) Mut.tup, fun b o u h => own_no hD m (e.frz b o u h) Mut.frz, fun b x h => own_no hD m (e.own b x h) Mut.own, fun b h => ?_, e.fb, e.new⟩
  · show upd w.H D u2 b = _
    rw [upd_ne (away b h2 (by rw [h1]; simp))]; exact e.keep b o h1 h2
  · have h : upd w.H D u2 b = none := h
    by_cases q : b = D
    · subst q; rw [upd_same] at h; cases h
    · rw [upd_ne q] at h; exact e.dom b h
end
end EV

set_option maxRecDepth 100000
set_option maxHeartbeats 2000000
namespace EV
open PySem PySem.Spec PyProof.Rows L2
/-! ### what the walk says of the words -/
theorem PE.weak {X : Cx} {e : Expr} {t t' : TE} (h : PE X e t) (k : ∀ σ H Q, t' σ H Q → t σ H Q) : PE X e t' := ⟨fun pins s σ H Q I q => h.run pins s σ H Q I (k σ H Q q)⟩
theorem PT.weak {X : Cx} {e : Expr} {t t' : TT} (h : PT X e t) (k : ∀ σ H Q, t' σ H Q → t σ H Q) : PT X e t' := ⟨fun pins s σ H Q I q => h.run pins s σ H Q I (k σ H Q q)⟩
theorem PW.weak {X : Cx} {e : Expr} {t t' : TT} (h : PW X e t) (k : ∀ σ H Q, t' σ H Q → t σ H Q) : PW X e t' := ⟨fun wh pins s σ H Q I q => h.run wh pins s σ H Q I (k σ H Q q)⟩
theorem PA.weak {X : Cx} {e : List Expr} {t t' : TA} (h : PA X e t) (k : ∀ σ H Q, t' σ H Q → t σ H Q) : PA X e t' := ⟨fun pos pins s σ H Q I q => h.run pos pins s σ H Q I (k σ H Q q)⟩
theorem PS.weak {X : Cx} {e : Stmt} {t t' : TS} (h : PS X e t) (k : ∀ D σ H, t' D σ H → t D σ H) : PS X e t' := ⟨fun pins s σ H Q I q => h.run pins s σ H Q I (k Q σ H q)⟩
theorem PSs.weak {X : Cx} {e : List Stmt} {t t' : TS} (h : PSs X e t) (k : ∀ D σ H, t' D σ H → t D σ H) : PSs X e t' := ⟨fun pins s σ H Q I q => h.run pins s σ H Q I (k Q σ H q)⟩
theorem PI.weak {X : Cx} {tg e : Expr} {t t' : TI} (h : PI X tg e t) (k : ∀ σ H Q, t' σ H Q → t σ H Q) : PI X tg e t' := ⟨fun pins s σ H Q I q => h.run pins s σ H Q I (k σ H Q q)⟩
theorem PI.or {X : Cx} {tg e : Expr} {t t' : TI} (h : PI X tg e t) (h' : PI X tg e t') : PI X tg e (fun σ H R => t σ H R ∨ t' σ H R) := ⟨fun pins s σ H Q I q => by
  rcases q with q | q
  · exact h.run pins s σ H Q I q
  · exact h'.run pins s σ H Q I q⟩

/-- an evaluation meets its ends -/
def Sat (K : PySem.W.Frag) {α : Type} (w : Wd) (r : Rs α) (P : α → Wd → Prop) (Z : Str → List AV → Wd → Prop) : Prop := match r with
  | .ok a s => ∀ w', w'.st = s → Ext w w' → WOK K w' → P a w'
  | .exc c fs s => ∀ w', w'.st = s → Ext w w' → WOK K w' → Z c fs w'
  | .stuck => False
section
variable {K : PySem.W.Frag} {α β : Type} {w w1 : Wd} {P P' : α → Wd → Prop} {Z : Str → List AV → Wd → Prop}
theorem Sat.mono {r : Rs α} (e : Ext w w1) (h : Sat K w r P Z) : Sat K w1 r P Z := by
  cases r with
  | ok a s => exact fun w' h1 h2 h3 => h w' h1 (e.trans h2) h3
  | exc c fs s => exact fun w' h1 h2 h3 => h w' h1 (e.trans h2) h3
  | stuck => exact h
theorem Sat.bind {r : Rs α} {f : α → Sto → Rs β} {Q : β → Wd → Prop} (h : Sat K w (r.bind f) Q Z) : Sat K w r (fun a w' => Ext w w' ∧ WOK K w' ∧ Sat K w' (f a w'.st) Q Z) Z := by
  cases r with
  | ok a s =>
    intro w' h1 h2 h3
    refine ⟨h2, h3, ?_⟩
    rw [h1]
    exact Sat.mono h2 h
  | exc c fs s => exact h
  | stuck => exact h
theorem Sat.bindF {r : Rs α} {f : α → Sto → Rs β} {Q : β → Wd → Prop} (h : Sat K w (r.bind f) Q Z) : Sat K w r (fun a w' => Ext w w' ∧ WOK K w' ∧ ∀ w2, Ext w w2 → w2.st = w'.st → Sat K w2 (f a w2.st) Q Z) Z := by
  cases r with
  | ok a s =>
    intro w' h1 h2 h3
    refine ⟨h2, h3, fun w2 e2 e3 => ?_⟩
    rw [e3, h1]
    exact Sat.mono e2 h
  | exc c fs s => exact h
  | stuck => exact h
theorem Sat.bindB {r : Rs α} {f : α → Sto → Rs β} {Q : β → Wd → Prop} (e : Ext w w1) (h : Sat K w (r.bind f) Q Z) : Sat K w1 r (fun a w' => Ext w1 w' ∧ WOK K w' ∧ Sat K w (f a w'.st) Q Z) Z := by
  cases r with
  | ok a s =>
    intro w' h1 h2 h3
    refine ⟨h2, h3, ?_⟩
    rw [h1]
    exact h
  | exc c fs s => exact fun w' h1 h2 h3 => h w' h1 (e.trans h2) h3
  | stuck => exact h
theorem Sat.imp {r : Rs α} (h : Sat K w r P Z) (k : ∀ a w', P a w' → P' a w') : Sat K w r P' Z := by
  cases r with
  | ok a s => exact fun w' h1 h2 h3 => k _ _ (h w' h1 h2 h3)
  | exc c fs s => exact h
  | stuck => exact h
theorem Sat.of_ {o : Option α} {s : Sto} (h : Sat K w (Rs.of o s) P Z) (hs : w.st = s) (ok : WOK K w) : ∃ a, o = some a ∧ P a w := by
  cases o with
  | none => exact (h : False).elim
  | some a => exact ⟨a, rfl, h w hs (Ext.refl w) ok⟩
theorem Sat.of2 {o : Option α} {s : Sto} (h : Sat K w (Rs.of o s) P Z) (hs : w.st = s) : ∃ a, o = some a ∧ ∀ w', w'.st = s → Ext w w' → WOK K w' → P a w' := by
  cases o with
  | none => exact (h : False).elim
  | some a => exact ⟨a, rfl, h⟩
theorem Sat.here {a : α} {s : Sto} (h : Sat K w (Rs.ok a s) P Z) (hs : w.st = s) (ok : WOK K w) : P a w := h w hs (Ext.refl w) ok
end
/-- where the defs stand -/
structure Glo (F : Type) where
  adr : F → Addr
  fd : F → FuncData
  ps : F → List Str
  nm : F → Option Str
  cl : Str → Addr
def RX {F : Type} (G : Glo F) (w : Wd) (c : Str) (fs : List AV) (cv : Value) (d : Option Addr) : Prop := cv = .ref (G.cl c)
def xq {F : Type} (G : Glo F) (XW : XK) : Str → List AV → Wd → Prop := fun c fs w => ∀ cv d, RX G w c fs cv d → XW cv d w.H
def spF {F : Type} (K : PySem.W.Frag) (G : Glo F) (C : Cf F) (f : F) : Sp := fun vs H Q XW => vs.length = (G.ps f).length ∧ ∃ w l, w.H = H ∧ WOK K w ∧ RWs K w l vs ∧ Sat K w (C f l w.st) (fun r w' => ∀ v, RR K w w' r v → Q v w'.H) (xq G XW)
def bNames : List Str := ["len", "sum", "min", "max", "tuple", "list", "isinstance", "range", "reversed", "zip", "enumerate", "int", "bool", "str", "sorted", "dict", "set"]
/-- a written dict of numbers by texts -/
def GetD (K : PySem.W.Frag) (w : World) (a : Addr) (t : List (Str × Int)) : Prop := ∃ es n, KDict K w a es n ∧ ∀ z, ∃ r, PySem.W.nsIn K a z = some r ∧ (t.lookup z = none → r = none) ∧ ∀ i, t.lookup z = some i → ∃ u, r = some (.int i u)
structure XOk {F : Type} (G : Glo F) (C : Cf F) (cs : Cn) (N : List Str) (k : Nat) (X : Cx) (XW : XK) (fnB : Bool) : Prop where
  hN : X.N = N
  hc : X.calm = true
  nd : X.N.Nodup
  room : Room k X.A
  tk : Takes X (fun c d _ H => XW c d H)
  fns : ∀ f g, G.nm f = some g → FnOk X.prog X.w X.K X.mg X.base (L2.CX X.prog X.w) k (G.adr f) (G.fd f) (G.ps f) (spF X.K G C f)
  mgf : ∀ f g, G.nm f = some g → X.mg g = some (.ref (G.adr f))
  kp : ∀ f g, G.nm f = some g → PySem.W.keepIn X.K (.ref (G.adr f)) = true
  bd : ∀ f g, G.nm f = some g → Binds X.K (G.fd f) (G.ps f) []
  len : ∀ f g l s, G.nm f = some g → C f l s ≠ .stuck → l.length = (G.ps f).length
  blt : ∀ x ∈ bNames, X.mg x = none
  cst : ∀ x c, cs.c.lookup x = some c → (∃ i t, c = .int i ∧ X.mg x = some (.int i t)) ∨ ∃ y t, c = .str y ∧ X.mg x = some (.str y t)
  dts : ∀ x t, cs.d.lookup x = some t → ∃ a, X.mg x = some (.ref a) ∧ GetD X.K X.w a t
  tps : ∀ x l, cs.t.lookup x = some l → ∃ a, X.mg x = some (.ref a) ∧ ∀ H, SqT X.K H a (l.map V.str)
  fnb : fnB = true → ∀ x, X.fn x = true
section
variable {F : Type} (G : Glo F) (C : Cf F) (cs : Cn) (N : List Str) (k : Nat)
def tEv (K : PySem.W.Frag) (XW : XK) (e : E F) : TE := fun σ H Q => ∃ w w0 env, w.H = H ∧ WOK K w ∧ REnv K w0 w env σ ∧ Sat K w (ev C env e w.st) (fun r w' => ∀ v, RR K w w' r v → Q v w'.H) (xq G XW)
def tEvT (K : PySem.W.Frag) (XW : XK) (e : E F) : TT := fun σ H Q => ∃ w w0 env, w.H = H ∧ WOK K w ∧ REnv K w0 w env σ ∧ Sat K w (ev C env e w.st) (fun r w' => ∃ b, r = .v (.bl b) ∧ Q b w'.H) (xq G XW)
def tEvs (K : PySem.W.Frag) (XW : XK) (es : Es F) : TA := fun σ H Q => ∃ w w0 env, w.H = H ∧ WOK K w ∧ REnv K w0 w env σ ∧ Sat K w (evs C env es w.st) (fun rs w' => ∀ vs, Paired (RR K w w') rs vs → Q vs w'.H) (xq G XW)
def GoodE (e : E F) : Prop := ∀ (sc : Scope) (ast : Expr) (X : Cx) (XW : XK) (fnB : Bool), okE G.nm cs N sc e ast = true → XOk G C cs N k X XW fnB → X.env.scope = sc → PE X ast (tEv G C X.K XW e)
end
section
variable {F : Type} {G : Glo F} {C : Cf F} {cs : Cn} {N : List Str} {k : Nat}
theorem and_t {a b : Bool} (h : (a && b) = true) : a = true ∧ b = true := Bool.and_eq_true_iff.mp h
theorem visB_ok {sc : Scope} {x : Str} (h : visB sc x = true) : Vis sc x := by
  unfold visB at h
  split at h
  · exact .inl (by assumption)
  · exact .inr (.inl (by assumption))
  · exact .inr (.inr (by assumption))
  · cases h
theorem not_f {b : Bool} (h : (!b) = true) : b = false := by cases b <;> simp_all
theorem good_var (i : Nat) : GoodE G C cs N k (.var i) := by
  intro sc ast X XW fnB h xo hsc
  cases ast with
  | Name x p =>
    have h : (decide (N[i]? = some x) && visB sc x && !(x == ("__debug__" : Str)) && !(x == ("__classdict__" : Str))) = true := h
    obtain ⟨h, h4⟩ := and_t h
    obtain ⟨h, h3⟩ := and_t h
    obtain ⟨h1, h2⟩ := and_t h
    have h1 := of_decide_eq_true h1
    subst hsc
    refine PE.weak (pe_var (i := i) (by rw [xo.hN]; exact h1) (visB_ok h2) (not_f h3) (not_f h4)) fun σ H Q q => ?_
    obtain ⟨w, w0, env, rfl, ok, en, q⟩ := q
    obtain ⟨r, hr, q⟩ := q.of_ rfl ok
    unfold rd at hr
    cases e : env[i]? with
    | none => rw [e] at hr; cases hr
    | some s =>
      rw [e] at hr
      cases s with
      | no => cases hr
      | v a =>
        cases hr
        obtain ⟨v, h1, h2⟩ := en.val i a e
        exact ⟨v, h1, q v h2⟩
      | own l =>
        cases hr
        obtain ⟨a, h1, h2, h4, h5, h6⟩ := en.own i l e
        exact ⟨_, h1, q _ ⟨a, rfl, h2, h4, h5⟩⟩
  | _ => cases (show false = true from h)
theorem good_cst (c : AV) : GoodE G C cs N k (.cst c) := by
  intro sc ast X XW fnB h xo hsc
  cases ast with
  | Constant y j p =>
    replace h : cstB c y = true := h
    have go : ∀ {v : V}, (∀ w : Wd, RW X.K w c v) → PE X (.Constant y j p) (tC v) → PE X (.Constant y j p) (tEv G C X.K XW (.cst c)) := fun {v} hv hp => by
      refine PE.weak hp fun σ H Q q => ?_
      obtain ⟨w, w0, env, rfl, ok, en, q⟩ := q
      exact (q.here rfl ok) v (hv w)
    cases c with
    | non => cases y <;> first | (cases (show false = true from h); done) | exact go (fun _ => .non) pe_non
    | bl b =>
      cases y <;> first | (cases (show false = true from h); done) | skip
      rename_i d
      have e : b = d := by simpa [cstB] using h
      subst e
      exact go (fun _ => .bl b) pe_bl
    | int i =>
      cases y <;> first | (cases (show false = true from h); done) | skip
      rename_i d
      have e : i = d := of_decide_eq_true h
      subst e
      exact go (fun _ => .int i) pe_int
    | str i =>
      cases y <;> first | (cases (show false = true from h); done) | skip
      rename_i d
      have e : i = d := of_decide_eq_true h
      subst e
      exact go (fun _ => .str i) pe_str
    | _ => cases y <;> cases (show false = true from h)
  | _ => cases (show false = true from h)
theorem good_glb (x : Str) (c : AV) : GoodE G C cs N k (.glb x c) := by
  intro sc ast X XW fnB h xo hsc
  cases ast with
  | Name y p =>
    replace h : (decide (x = y) && gloB sc y && (match cs.c.lookup x with
      | some k => cstB c k
      | none => false)) = true := h
    obtain ⟨h, h3⟩ := and_t h
    obtain ⟨h1, h2⟩ := and_t h
    have h1 := of_decide_eq_true h1
    subst h1 hsc
    unfold gloB at h2
    obtain ⟨h2, h5⟩ := and_t h2
    obtain ⟨h2, h4⟩ := and_t h2
    have g : Gl X x := (of_decide_eq_true h2 : X.env.scope.names.lookup x = some .globalImplicit)
    cases e : cs.c.lookup x with
    | none => rw [e] at h3; cases h3
    | some q =>
      rw [e] at h3
      rcases xo.cst x q e with ⟨i, t, rfl, hm⟩ | ⟨z, t, rfl, hm⟩
      · cases c with
        | int j =>
          have e : j = i := of_decide_eq_true h3
          subst e
          refine PE.weak (pe_glob (v := .int j) g hm ⟨t, rfl⟩ (not_f h4)) fun σ H Q q => ?_
          obtain ⟨w, w0, env, rfl, ok, en, q⟩ := q
          exact (q.here rfl ok) _ (.int j)
        | _ => cases h3
      · cases c with
        | str j =>
          have e : j = z := of_decide_eq_true h3
          subst e
          refine PE.weak (pe_glob (v := .str j) g hm ⟨t, rfl⟩ (not_f h4)) fun σ H Q q => ?_
          obtain ⟨w, w0, env, rfl, ok, en, q⟩ := q
          exact (q.here rfl ok) _ (.str j)
        | _ => cases h3
  | _ => cases (show false = true from h)
/-! ### two in a row -/
theorem two {K : PySem.W.Frag} {XW : XK} {a b : E F} {σ : L2.St} {Q : V → V → Hp → Prop} {w w0 : Wd} {env : Env} {f : R → R → Sto → Rs R} {P : R → Wd → Prop} (ok : WOK K w) (en : REnv K w0 w env σ)
    (h : Sat K w ((ev C env a w.st).bind fun x s => (ev C env b s).bind fun y s => f x y s) P (xq G XW))
    (k : ∀ x y v u w', Ext w w' → WOK K w' → REnv K w0 w' env σ → RR K w w' x v → RR K w w' y u → Sat K w' (f x y w'.st) P (xq G XW) → Q v u w'.H) :
    tEv G C K XW a σ w.H fun v H1 => tEv G C K XW b σ H1 fun u H2 => Q v u H2 := by
  refine ⟨w, w0, env, rfl, ok, en, h.bind.imp fun x w1 ⟨e1, ok1, h1⟩ v rx => ⟨w1, w0, env, rfl, ok1, en.ext ok e1, h1.bind.imp fun y w2 ⟨e2, ok2, h2⟩ u ry => ?_⟩⟩
  exact k x y v u w2 (e1.trans e2) ok2 (en.ext ok (e1.trans e2)) (rx.ext e1 ok1 e2) (ry.back e1) h2
/-- the answers of an operation -/
def Ans (K : PySem.W.Frag) (w : Wd) (r : R) (Q : V → Hp → Prop) : Prop := ∀ w', w'.st = w.st → Ext w w' → WOK K w' → ∀ v, RR K w w' r v → Q v w'.H
theorem ans_of {K : PySem.W.Frag} {XW : XK} {w w1 : Wd} {o : Option R} {Q : V → Hp → Prop} (e : Ext w w1) (h : Sat K w1 (Rs.of o w1.st) (fun r w' => ∀ v, RR K w w' r v → Q v w'.H) (xq G XW)) : ∃ r, o = some r ∧ Ans K w1 r Q := by
  obtain ⟨r, hr, h⟩ := h.of2 rfl
  exact ⟨r, hr, fun w2 h1 h2 h3 v rv => h w2 h1 h2 h3 v (rv.back e)⟩
theorem two_of {K : PySem.W.Frag} {XW : XK} {a b : E F} {σ : L2.St} {Q : VK} {Q' : V → V → Hp → Prop} {w w0 : Wd} {env : Env} {g : Sto → R → R → Option R} (ok : WOK K w) (en : REnv K w0 w env σ)
    (h : Sat K w ((ev C env a w.st).bind fun x s => (ev C env b s).bind fun y s => Rs.of (g s x y) s) (fun r w' => ∀ v, RR K w w' r v → Q v w'.H) (xq G XW))
    (k : ∀ x y v u w' r, WOK K w' → RC K w' (fz x) v → RC K w' (fz y) u → g w'.st x y = some r → Ans K w' r Q → Q' v u w'.H) :
    tEv G C K XW a σ w.H fun v H1 => tEv G C K XW b σ H1 fun u H2 => Q' v u H2 :=
  two ok en h fun x y v u w' e1 ok1 en1 rx ry h => by
    obtain ⟨r, hr, h⟩ := ans_of e1 h
    exact k x y v u w' r ok1 rx.rc ry.rc hr h
/-! ### operators -/
theorem RC.int {K : PySem.W.Frag} {w : Wd} {i : Int} {v : V} (h : RC K w (.v (.int i)) v) : v = .int i := by
  have h : RW K w (.int i) v := h
  cases h; rfl
theorem RC.str {K : PySem.W.Frag} {w : Wd} {i : Str} {v : V} (h : RC K w (.v (.str i)) v) : v = .str i := by
  have h : RW K w (.str i) v := h
  cases h; rfl
theorem RC.bl {K : PySem.W.Frag} {w : Wd} {i : Bool} {v : V} (h : RC K w (.v (.bl i)) v) : v = .bl i := by
  have h : RW K w (.bl i) v := h
  cases h; rfl
theorem RC.tup {K : PySem.W.Frag} {w : Wd} {l : List AV} {v : V} (h : RC K w (.v (.tup l)) v) : ∃ a vs, v = .ref a ∧ SqT K w.H a vs ∧ RWs K w l vs := by
  have h : RW K w (.tup l) v := h
  cases h with
  | tup h1 h2 => exact ⟨_, _, rfl, h1, h2⟩
theorem Ans.val {K : PySem.W.Frag} {w : Wd} {a : AV} {v : V} {Q : V → Hp → Prop} (h : Ans K w (.v a) Q) (ok : WOK K w) (r : RW K w a v) : Q v w.H := h w rfl (Ext.refl w) ok v r
theorem Ans.tup {K : PySem.W.Frag} {w : Wd} {l : List AV} {vs : List V} {p : Addr} {Q : V → Hp → Prop} (h : Ans K w (.v (.tup l)) Q) (ok : WOK K w) (r : RWs K w l vs) (hp : w.H p = none) : Q (.ref p) (upd w.H p (.tup vs)) :=
  h ⟨w.ro, w.fb, w.st, upd w.H p (.tup vs)⟩ rfl (Ext.laid hp) (ok.laid hp) _ (res_tup ok hp r)
theorem Ans.ct {K : PySem.W.Frag} {w : Wd} {c : Ct} {vs : List V} {p : Addr} {Q : V → Hp → Prop} (h : Ans K w (.tl c) Q) (ok : WOK K w) (hw : c.wf) (r : RWs K w c.vals vs) (hp : w.H p = none) : Q (.ref p) (upd w.H p (c.ho vs)) :=
  h ⟨w.ro, p :: w.fb, w.st, upd w.H p (c.ho vs)⟩ rfl (Ext.laidF hp) (ok.laidF hp) _ (res_ct ok hp hw r)
theorem Ans.lst {K : PySem.W.Frag} {w : Wd} {l : List AV} {vs : List V} {p : Addr} {Q : V → Hp → Prop} (h : Ans K w (.tl (.lst l)) Q) (ok : WOK K w) (r : RWs K w l vs) (hp : w.H p = none) : Q (.ref p) (upd w.H p (.lst vs)) := Ans.ct (c := .lst l) h ok trivial r hp
theorem loc_ct {K : PySem.W.Frag} {w : Wd} {n : Nat} {v : V} {c : Ct} (ok : WOK K w) (h : RW K w (.loc n) v) (e : w.st.ob[n]? = some (.ct c)) : ∃ a, v = .ref a ∧ w.ro[n]? = some a ∧ RCt K w a c := by
  cases h with
  | loc h1 => exact ⟨_, rfl, h1, ok.obj n _ _ e h1⟩
/-- a list that stands by itself -/
theorem lstOf_ok {K : PySem.W.Frag} {w : Wd} {x : R} {v : V} {l : List AV} (ok : WOK K w) (e : lstOf w.st x = some l) (h : RC K w x v) : ∃ a vs, v = .ref a ∧ w.H a = some (.lst vs) ∧ RWs K w l vs := by
  have go : (∃ a, v = .ref a ∧ RCt K w a (.lst l)) → ∃ a vs, v = .ref a ∧ w.H a = some (.lst vs) ∧ RWs K w l vs := fun ⟨a, e, vs, h1, _, h3⟩ => ⟨a, vs, e, h1, h3⟩
  unfold lstOf at e
  split at e
  · cases e; exact go h
  · split at e
    · rename_i q
      cases e
      have h : RW K w (.loc _) v := h
      obtain ⟨a, rfl, _, h2⟩ := loc_ct ok h q
      exact go ⟨a, rfl, h2⟩
    · cases e
  · cases e; exact go h
  · cases e; exact go h
  · cases e
theorem RAs.rep {K : PySem.W.Frag} {ro fb : List Addr} {H : Hp} {l : List AV} {vs : List V} (h : RAs K ro fb H l vs) : ∀ k : Nat, RAs K ro fb H (List.replicate k l).flatten (List.replicate k vs).flatten
  | 0 => .nil
  | k + 1 => by
    rw [List.replicate_succ, List.replicate_succ, List.flatten_cons, List.flatten_cons]
    exact h.append (RAs.rep h k)
def rBin (K : PySem.W.Frag) : Bop → R2
  | .add => fun x y H Q => (rI0 fun i j => .int (i + j)) x y H Q ∨ rCatA K x y H Q ∨ (∃ i j, x = .str i ∧ y = .str j ∧ i.length + j.length ≤ sizeLine ∧ Q (.str (i ++ j)) H) ∨ rCat x y H Q
  | .sub => rI0 fun i j => .int (i - j)
  | .mul => fun x y H Q => rI CMul (fun i j => .int (i * j)) x y H Q ∨ rRepA K x y H Q ∨ rRep x y H Q
  | .fdiv => rI CDiv fun i j => .int (i / j)
  | .mod => rI (fun _ j => 0 < j) fun i j => .int (i % j)
  | .pow => rI CPow fun i j => .int (i ^ j.toNat)
theorem op_bin {X : Cx} : ∀ o : Bop, OpR X (binaryOp (bopOp o)) (rBin X.K o)
  | .add => op_add.or (op_catA.or (op_add_str.or op_cat))
  | .sub => op_sub
  | .mul => op_mul.or (op_repA.or op_rep)
  | .fdiv => op_fdiv
  | .mod => op_mod
  | .pow => op_pow
theorem bin_ok {K : PySem.W.Frag} {w : Wd} {o : Bop} {x y r : R} {v u : V} {Q : V → Hp → Prop} (ok : WOK K w) (e : binR w.st o x y = some r) (rx : RC K w x v) (ry : RC K w y u) (h : Ans K w r Q) : rBin K o v u w.H Q := by
  unfold binR at e
  split at e
  · cases e
    have := rx.int; have := ry.int; subst_vars
    exact .inl ⟨_, _, rfl, rfl, h.val ok (.int _)⟩
  · cases e
    have := rx.int; have := ry.int; subst_vars
    exact ⟨_, _, rfl, rfl, h.val ok (.int _)⟩
  · split at e
    · cases e
      have := rx.int; have := ry.int; subst_vars
      rename_i c
      refine .inl ⟨_, _, rfl, rfl, ?_, h.val ok (.int _)⟩
      unfold mulOk at c
      simpa [CMul] using c
    · cases e
  · split at e
    · cases e
      have := rx.int; have := ry.int; subst_vars
      rename_i c
      refine ⟨_, _, rfl, rfl, ?_, h.val ok (.int _)⟩
      simpa [CDiv] using c
    · cases e
  · split at e
    · cases e
      have := rx.int; have := ry.int; subst_vars
      rename_i c
      exact ⟨_, _, rfl, rfl, of_decide_eq_true c, h.val ok (.int _)⟩
    · cases e
  · split at e
    · cases e
      have := rx.int; have := ry.int; subst_vars
      rename_i c
      refine ⟨_, _, rfl, rfl, ?_, h.val ok (.int _)⟩
      simpa [CPow, and_assoc] using c
    · cases e
  · split at e
    · cases e
      obtain ⟨a, vs, rfl, h1, h2⟩ := rx.tup
      obtain ⟨b, us, rfl, h3, h4⟩ := ry.tup
      rename_i c
      have c := of_decide_eq_true c
      refine .inr (.inl ⟨a, b, vs, us, rfl, rfl, h1, h3, by rw [← h2.length, ← h4.length]; exact c, fun z => ?_, fun _ z => ?_, fun _ _ p hp => ?_⟩)
      · subst z
        cases h2
        exact h.val ok (.tup h3 h4)
      · subst z
        cases h4
        rw [List.append_nil] at h
        exact h.val ok (.tup h1 h2)
      · exact h.tup ok (h2.append h4) hp
    · cases e
  · split at e
    · cases e
      have := rx.str; have := ry.str; subst_vars
      rename_i c
      exact .inr (.inr (.inl ⟨_, _, rfl, rfl, of_decide_eq_true c, h.val ok (.str _)⟩))
    · cases e
  · split at e
    · rename_i a k c
      cases e
      obtain ⟨c, c3⟩ := and_t c
      obtain ⟨c1, c2⟩ := and_t c
      have c1 := of_decide_eq_true c1
      have c2 := of_decide_eq_true c2
      have c3 := of_decide_eq_true c3
      obtain ⟨p, vs, rfl, h1, h2⟩ := rx.tup
      have := ry.int; subst this
      refine .inr (.inl ⟨p, k, vs, rfl, rfl, h1, c1, c2, by rw [← h2.length]; exact c3, fun z => ?_, fun _ q hq => h.tup ok (h2.rep _) hq⟩)
      have e : (List.replicate k.toNat a).flatten = a := by
        rcases z with z | z
        · subst z
          cases h2
          simp
        · subst z
          simp
      rw [e] at h
      exact h.val ok (.tup h1 h2)
    · cases e
  · split at e
    · rename_i a q
      split at e
      · rename_i c
        cases e
        obtain ⟨c, c3⟩ := and_t c
        obtain ⟨c1, c2⟩ := and_t c
        have c1 := of_decide_eq_true c1
        have c2 := of_decide_eq_true c2
        have c3 := of_decide_eq_true c3
        obtain ⟨p, vs, rfl, h1, h2⟩ := lstOf_ok ok q rx
        have := ry.int; subst this
        exact .inr (.inr ⟨p, _, vs, rfl, rfl, h1, by omega, by omega, by rw [← h2.length]; exact c3, fun q hq => h.lst ok (h2.rep _) hq⟩)
      · cases e
    · cases e
  · split at e
    · rename_i a b q1 q2
      split at e
      · rename_i c
        cases e
        have c := of_decide_eq_true c
        obtain ⟨p, vs, rfl, h1, h2⟩ := lstOf_ok ok q1 rx
        obtain ⟨p2, us, rfl, h3, h4⟩ := lstOf_ok ok q2 ry
        exact .inr (.inr (.inr ⟨p, p2, vs, us, rfl, rfl, h1, h3, by rw [← h2.length, ← h4.length]; exact c, fun q hq => h.lst ok (h2.append h4) hq⟩))
      · cases e
    · cases e
  · cases e
theorem good_bin (o : Bop) {a b : E F} (ha : GoodE G C cs N k a) (hb : GoodE G C cs N k b) : GoodE G C cs N k (.bin o a b) := by
  intro sc ast X XW fnB h xo hsc
  cases ast with
  | BinOp x q y p =>
    replace h : (decide (q = bopOp o) && okE G.nm cs N sc a x && okE G.nm cs N sc b y) = true := h
    obtain ⟨h, h3⟩ := and_t h
    obtain ⟨h1, h2⟩ := and_t h
    have h1 := of_decide_eq_true h1
    subst h1
    refine PE.weak (pe_op (op_bin o) (ha sc x X XW fnB h2 xo hsc) (hb sc y X XW fnB h3 xo hsc)) fun σ H Q q => ?_
    obtain ⟨w, w0, env, rfl, ok, en, q⟩ := q
    exact two_of (Q' := fun v u H2 => rBin X.K o v u H2 Q) ok en q fun x y v u w' r ok1 rx ry hr h => bin_ok ok1 hr rx ry h
  | _ => cases (show false = true from h)
/-! ### comparisons -/
section
variable {K : PySem.W.Frag} {ro fb : List Addr} {H : Hp}
theorem dpInts : ∀ l : List Int, DpAll K H (l.map V.int) (l.map PyData.int)
  | [] => .nil
  | i :: l => .cons (.int i) (dpInts l)
section
variable {f : Nat → Option PyData} (hf : ∀ n d v, f n = some d → RA K ro fb H (.loc n) v → Dp K H v d)
include hf
mutual
theorem toD_dp : ∀ (a : AV) (d : PyData) (v : V), toD f a = some d → RA K ro fb H a v → Dp K H v d
  | .non, d, v, e, h => by
    cases h
    cases (show some PyData.none = some d from e)
    exact .non
  | .bl b, d, v, e, h => by
    cases h
    cases (show some (PyData.bool b) = some d from e)
    exact .bl b
  | .int b, d, v, e, h => by
    cases h
    cases (show some (PyData.int b) = some d from e)
    exact .int b
  | .str b, d, v, e, h => by
    cases h
    cases (show some (PyData.str b) = some d from e)
    exact .str b
  | .tup l, d, v, e, h => by
    cases h with
    | tup h1 h2 =>
      obtain ⟨ds, q1, q2⟩ := Option.map_eq_some_iff.mp (show (toDs f l).map PyData.tuple = some d from e)
      subst q2
      exact .tup h1 (toDs_dp l ds _ q1 h2)
  | .lst l, d, v, e, h => by
    cases h with
    | lst h1 _ h2 =>
      obtain ⟨ds, q1, q2⟩ := Option.map_eq_some_iff.mp (show (toDs f l).map PyData.list = some d from e)
      subst q2
      exact .lst (SqL.of h1) (toDs_dp l ds _ q1 h2)
  | .scr l, d, v, e, h => by
    cases h with
    | scr h1 =>
      cases (show some (PyData.list (l.map .int)) = some d from e)
      exact .lst h1.sq (dpInts l)
  | .loc n, d, v, e, h => hf n d v e h
  | .dic _ _, d, v, e, h => by cases (show none = some d from e)
  | .dit _ _, d, v, e, h => by cases (show none = some d from e)
theorem toDs_dp : ∀ (l : List AV) (ds : List PyData) (vs : List V), toDs f l = some ds → RAs K ro fb H l vs → DpAll K H vs ds
  | [], ds, vs, e, h => by
    cases h
    cases (show some [] = some ds from e)
    exact .nil
  | a :: l, ds, vs, e, h => by
    cases h with
    | cons h1 h2 =>
      have e : (match toD f a, toDs f l with
        | some d, some ds => some (d :: ds)
        | _, _ => none) = some ds := e
      cases q1 : toD f a with
      | none => rw [q1] at e; cases e
      | some d =>
        cases q2 : toDs f l with
        | none => rw [q1, q2] at e; cases e
        | some dl =>
          rw [q1, q2] at e
          cases e
          exact .cons (toD_dp a d _ q1 h1) (toDs_dp l dl _ q2 h2)
end
end
end
theorem ctD_dp {K : PySem.W.Frag} {w : Wd} {f : Nat → Option PyData} (hf : ∀ n d v, f n = some d → RW K w (.loc n) v → Dp K w.H v d) {a : Addr} {c : Ct} {d : PyData} (e : ctD f c = some d) (h : RCt K w a c) : Dp K w.H (.ref a) d := by
  cases c with
  | lst l =>
    obtain ⟨vs, h1, _, h2⟩ := h
    obtain ⟨ds, q1, q2⟩ := Option.map_eq_some_iff.mp (show (toDs f l).map PyData.list = some d from e)
    subst q2
    exact .lst (SqL.of h1) (toDs_dp hf l ds _ q1 h2)
  | dic _ _ => cases (show none = some d from e)
  | dit _ _ => cases (show none = some d from e)
theorem locD_dp {K : PySem.W.Frag} {w : Wd} (ok : WOK K w) : ∀ (k n : Nat) (d : PyData) (v : V), locD w.st k n = some d → RW K w (.loc n) v → Dp K w.H v d
  | 0, n, d, v, e, h => by cases (show none = some d from e)
  | k + 1, n, d, v, e, h => by
    have e : (match w.st.ob[n]? with
      | some (.ct c) => ctD (locD w.st k) c
      | _ => none) = some d := e
    split at e
    · rename_i c q
      obtain ⟨a, rfl, _, h2⟩ := loc_ct ok h q
      exact ctD_dp (fun n d v e h => locD_dp ok k n d v e h) e h2
    · cases e
theorem RC.rw {K : PySem.W.Frag} {w : Wd} {a : AV} {v : V} (h : RC K w (.v a) v) : (∃ c p, a = c.av ∧ v = .ref p ∧ RCt K w p c) ∨ RW K w a v := by
  cases a with
  | lst l => exact .inl ⟨.lst l, h.elim fun p q => ⟨p, rfl, q⟩⟩
  | dic ks l => exact .inl ⟨.dic ks l, h.elim fun p q => ⟨p, rfl, q⟩⟩
  | dit ks l => exact .inl ⟨.dit ks l, h.elim fun p q => ⟨p, rfl, q⟩⟩
  | _ => exact .inr h
theorem toD_ct {f : Nat → Option PyData} (c : Ct) : toD f c.av = ctD f c := by cases c <;> rfl
theorem dat_dp {K : PySem.W.Frag} {w : Wd} {x : R} {v : V} {d : PyData} (ok : WOK K w) (e : dat w.st x = some d) (h : RC K w x v) : Dp K w.H v d := by
  cases x with
  | tl c =>
    obtain ⟨a, rfl, h⟩ := h
    exact ctD_dp (locD_dp ok 4) e h
  | bo c =>
    obtain ⟨a, rfl, h⟩ := h
    exact ctD_dp (locD_dp ok 4) e h
  | v a =>
    rcases h.rw with ⟨c, p, rfl, rfl, h'⟩ | h
    · exact ctD_dp (locD_dp ok 4) (by rw [← toD_ct]; exact e) h'
    · exact toD_dp (locD_dp ok 4) a d v e h
theorem eqR_ok {K : PySem.W.Frag} {w : Wd} {x y : R} {v u : V} {b : Bool} (ok : WOK K w) (e : eqR w.st x y = some b) (rx : RC K w x v) (ry : RC K w y u) :
    ∃ d e, Dp K w.H v d ∧ Dp K w.H u e ∧ SeqAt.shaped d = true ∧ SeqAt.shaped e = true ∧ PyData.eqv d e = b := by
  unfold eqR at e
  cases q1 : dat w.st x with
  | none => rw [q1] at e; cases e
  | some d =>
    cases q2 : dat w.st y with
    | none => rw [q1, q2] at e; cases e
    | some d' =>
      rw [q1, q2] at e
      simp only at e
      split at e
      · rename_i c
        obtain ⟨c1, c2⟩ := and_t c
        exact ⟨d, d', dat_dp ok q1 rx, dat_dp ok q2 ry, c1, c2, Option.some.inj e⟩
      · cases e
def rCmp (K : PySem.W.Frag) : Cop → R2
  | .eq => rEqD K
  | .ne => rNeD K
  | .isn => fun x y H Q => y = .non ∧ Q (.bl (decide (x = .non))) H
  | .notn => fun x y H Q => y = .non ∧ Q (.bl (!decide (x = .non))) H
  | .lt => fun x y H Q => (rI0 fun i j => .bl (decide (i < j))) x y H Q ∨ rLtT K x y H Q
  | .le => rI0 fun i j => .bl (decide (i ≤ j))
  | .gt => rI0 fun i j => .bl (decide (j < i))
  | .ge => rI0 fun i j => .bl (decide (j ≤ i))
  | .inn => fun x y H Q => rInD K x y H Q ∨ rIn K false x y H Q
  | .notin => fun x y H Q => rNotInD K x y H Q ∨ rIn K true x y H Q
theorem u65 {k : Nat} {A : Around} (h : Room k A) : A.units + 65 < cLine := by
  have := h.un
  omega
theorem op_cmp {X : Cx} (hu' : X.A.units + 65 < cLine) : ∀ o : Cop, OpR X (compareOp (copOp o)) (rCmp X.K o)
  | .eq => op_eqD (by omega)
  | .ne => op_neD (by omega)
  | .isn => op_isN
  | .notn => op_notN
  | .lt => op_lt.or (op_ltT (by omega))
  | .le => op_le
  | .gt => op_gt
  | .ge => op_ge
  | .inn => (op_inD hu').or op_in_seq
  | .notin => (op_notInD hu').or op_notIn_seq
theorem isNon_ok {K : PySem.W.Frag} {w : Wd} {x : R} {v : V} (h : RC K w x v) : isNon x = decide (v = .non) := by
  cases x with
  | tl l => obtain ⟨a, rfl, _⟩ := h; rfl
  | bo l => obtain ⟨a, rfl, _⟩ := h; rfl
  | v a =>
    rcases h.rw with ⟨c, p, rfl, rfl, h⟩ | h
    · cases c <;> rfl
    · cases h <;> rfl
theorem RC.non {K : PySem.W.Frag} {w : Wd} {v : V} (h : RC K w (.v .non) v) : v = .non := by
  have h : RW K w .non v := h
  cases h; rfl
theorem flat_v {K : PySem.W.Frag} {w : Wd} (ok : WOK K w) : ∀ {a : AV} {d : PyData} {v : V}, RW K w a v → toD (locD w.st 4) a = some d → flatD d = true → flatV v = true ∧ (match d with
    | .none => v = .non
    | .bool b => v = .bl b
    | .int i => v = .int i
    | .str x => v = .str x
    | _ => False)
  | .non, _, _, h, e, _ => by cases e; cases h; exact ⟨rfl, rfl⟩
  | .bl _, _, _, h, e, _ => by cases e; cases h; exact ⟨rfl, rfl⟩
  | .int _, _, _, h, e, _ => by cases e; cases h; exact ⟨rfl, rfl⟩
  | .str _, _, _, h, e, _ => by cases e; cases h; exact ⟨rfl, rfl⟩
  | .tup l, _, _, h, e, f => by
    have e : (toDs _ l).map PyData.tuple = some _ := e
    obtain ⟨ds, _, rfl⟩ := Option.map_eq_some_iff.mp e
    cases f
  | .lst l, _, _, h, e, f => by
    have e : (toDs _ l).map PyData.list = some _ := e
    obtain ⟨ds, _, rfl⟩ := Option.map_eq_some_iff.mp e
    cases f
  | .scr l, _, _, h, e, f => by cases e; cases f
  | .loc l, d, _, h, e, f => by
    have e : (match w.st.ob[l]? with
      | some (.ct c) => ctD (locD w.st 3) c
      | _ => none) = some d := e
    split at e
    · rename_i c _
      cases c with
      | lst l =>
        obtain ⟨ds, _, rfl⟩ := Option.map_eq_some_iff.mp (show (toDs _ l).map PyData.list = some d from e)
        cases f
      | dic _ _ => cases (show none = some d from e)
      | dit _ _ => cases (show none = some d from e)
    · cases e
  | .dic _ _, _, _, h, e, f => by cases e
  | .dit _ _, _, _, h, e, f => by cases e
theorem flat_eq {K : PySem.W.Frag} {w : Wd} {a b : AV} {d e : PyData} {v u : V} (h : RW K w a v) (h' : RW K w b u) (ok : WOK K w) (q : toD (locD w.st 4) a = some d) (q' : toD (locD w.st 4) b = some e) (f : flatD d = true) (f' : flatD e = true) : eqV v u = PyData.eqv d e := by
  have h1 := (flat_v ok h q f).2
  have h2 := (flat_v ok h' q' f').2
  cases d <;> cases e <;> first | (cases f; done) | (cases f'; done) | (subst h1 h2; simp [eqV, PyData.eqv])
theorem flat_all {K : PySem.W.Frag} {w : Wd} {b : AV} {e : PyData} {u : V} (ok : WOK K w) (h' : RW K w b u) (q' : toD (locD w.st 4) b = some e) (f' : flatD e = true) : ∀ {l : List AV} {ds : List PyData} {vs : List V}, RWs K w l vs → toDs (locD w.st 4) l = some ds → ds.all flatD = true → vs.all flatV = true ∧ (vs.any fun y => eqV y u) = ds.any fun z => PyData.eqv z e
  | [], ds, vs, h, q, _ => by cases q; cases h; exact ⟨rfl, rfl⟩
  | a :: l, ds, vs, h, q, f => by
    cases h with
    | cons h1 h2 =>
      have q : (match toD (locD w.st 4) a, toDs (locD w.st 4) l with
        | some d, some ds => some (d :: ds)
        | _, _ => none) = some ds := q
      cases q1 : toD (locD w.st 4) a with
      | none => rw [q1] at q; cases q
      | some d =>
        cases q2 : toDs (locD w.st 4) l with
        | none => rw [q1, q2] at q; cases q
        | some dl =>
          rw [q1, q2] at q
          cases q
          rw [List.all_cons] at f
          obtain ⟨f1, f2⟩ := and_t f
          obtain ⟨g1, g2⟩ := flat_all ok h' q' f' h2 q2 f2
          rw [List.all_cons, List.any_cons, List.any_cons, (flat_v ok h1 q1 f1).1, g1, g2, flat_eq h1 h' ok q1 q' f1 f']
          exact ⟨rfl, rfl⟩
theorem inR_ok {K : PySem.W.Frag} {w : Wd} {x y : R} {v u : V} {b : Bool} (ok : WOK K w) (e : inR w.st x y = some b) (rx : RC K w x v) (ry : RC K w y u) :
    (∃ d ds, Dp K w.H v d ∧ Dp K w.H u (.list ds) ∧ SeqAt.shaped d = true ∧ SeqAt.shaped (.list ds) = true ∧ (ds.any fun z => PyData.eqv z d) = b) ∨ ∃ p xs, u = .ref p ∧ SqT K w.H p xs ∧ flatV v = true ∧ xs.all flatV = true ∧ inV v xs = b := by
  unfold inR at e
  split at e
  · rename_i d ds q1 q2
    split at e
    · rename_i c
      obtain ⟨c1, c2⟩ := and_t c
      exact .inl ⟨d, ds, dat_dp ok q1 rx, dat_dp ok q2 ry, c1, c2, Option.some.inj e⟩
    · cases e
  · rename_i d ds q1 q2
    split at e
    · rename_i c
      obtain ⟨c1, c2⟩ := and_t c
      have nl : ∀ {c : Ct} {e : PyData}, ctD (locD w.st 4) c = some e → ∃ es, e = .list es := fun {c e} q => by
        cases c with
        | lst l =>
          obtain ⟨es, _, rfl⟩ := Option.map_eq_some_iff.mp (show (toDs _ l).map PyData.list = some e from q)
          exact ⟨es, rfl⟩
        | dic _ _ => cases (show none = some e from q)
        | dit _ _ => cases (show none = some e from q)
      have hx : ∃ a, toD (locD w.st 4) a = some d ∧ RW K w a v := by
        cases x with
        | tl c => obtain ⟨_, rfl⟩ := nl q1; cases c1
        | bo c => obtain ⟨_, rfl⟩ := nl q1; cases c1
        | v a =>
          rcases rx.rw with ⟨c, p, rfl, rfl, h⟩ | h
          · have q1 : toD (locD w.st 4) c.av = some d := q1
            rw [toD_ct] at q1
            obtain ⟨_, rfl⟩ := nl q1; cases c1
          · exact ⟨a, q1, h⟩
      obtain ⟨a, q5, q6⟩ := hx
      cases y with
      | tl c => obtain ⟨_, z⟩ := nl q2; cases z
      | bo c => obtain ⟨_, z⟩ := nl q2; cases z
      | v b =>
        rcases ry.rw with ⟨c, p, rfl, rfl, h⟩ | h
        · have q2 : toD (locD w.st 4) c.av = some _ := q2
          rw [toD_ct] at q2
          obtain ⟨_, z⟩ := nl q2; cases z
        · cases h with
          | tup h1 h2 =>
            rename_i l
            have q2 : (toDs _ l).map PyData.tuple = some _ := q2
            obtain ⟨es, q3, q4⟩ := Option.map_eq_some_iff.mp q2
            cases q4
            obtain ⟨g1, g2⟩ := flat_all ok q6 q5 c1 h2 q3 c2
            exact .inr ⟨_, _, rfl, h1, (flat_v ok q6 q5 c1).1, g1, by unfold inV; rw [g2]; exact Option.some.inj e⟩
          | loc h1 =>
            rename_i n
            have q2 : (match w.st.ob[n]? with
              | some (.ct c) => ctD (locD w.st 3) c
              | _ => none) = some _ := q2
            split at q2
            · rename_i c _
              cases c with
              | lst l =>
                obtain ⟨es, _, z⟩ := Option.map_eq_some_iff.mp (show (toDs _ l).map PyData.list = some _ from q2)
                cases z
              | dic _ _ => cases q2
              | dit _ _ => cases q2
            · cases q2
          | lst _ _ _ =>
            rename_i l _ _ _
            obtain ⟨es, _, z⟩ := Option.map_eq_some_iff.mp (show (toDs _ _).map PyData.list = some _ from q2)
            cases z
          | _ => cases q2
    · cases e
  · cases e
theorem cmp_ok {K : PySem.W.Frag} {w : Wd} {o : Cop} {x y : R} {v u : V} {b : Bool} {Q : VK} (ok : WOK K w) (e : cmpR w.st o x y = some b) (rx : RC K w x v) (ry : RC K w y u) (h : Q (.bl b) w.H) : rCmp K o v u w.H Q := by
  unfold cmpR at e
  split at e
  · obtain ⟨d, d', h1, h2, h3, h4, h5⟩ := eqR_ok ok e rx ry
    exact ⟨d, d', h1, h2, h3, h4, by rw [h5]; exact h⟩
  · obtain ⟨c, q1, q2⟩ := Option.map_eq_some_iff.mp e
    obtain ⟨d, d', h1, h2, h3, h4, h5⟩ := eqR_ok ok q1 rx ry
    exact ⟨d, d', h1, h2, h3, h4, by rw [h5, q2]; exact h⟩
  · cases e
    have := ry.non; subst this
    exact ⟨rfl, by rw [← isNon_ok rx]; exact h⟩
  · cases e
    have := ry.non; subst this
    exact ⟨rfl, by rw [← isNon_ok rx]; exact h⟩
  · cases e
    have := rx.int; have := ry.int; subst_vars
    exact .inl ⟨_, _, rfl, rfl, h⟩
  · cases e
    have := rx.int; have := ry.int; subst_vars
    exact ⟨_, _, rfl, rfl, h⟩
  · cases e
    have := rx.int; have := ry.int; subst_vars
    exact ⟨_, _, rfl, rfl, h⟩
  · cases e
    have := rx.int; have := ry.int; subst_vars
    exact ⟨_, _, rfl, rfl, h⟩
  · split at e
    · rename_i n m q1 q2
      cases e
      obtain ⟨a, vs, rfl, h1, h2⟩ := rx.tup
      obtain ⟨b, us, rfl, h3, h4⟩ := ry.tup
      have e1 := h2.of_ints q1
      have e2 := h4.of_ints q2
      subst e1 e2
      exact .inr ⟨a, b, n, m, rfl, rfl, h1, h3, h⟩
    · cases e
  · rcases inR_ok ok e rx ry with ⟨d, ds, h1, h2, h3, h4, h5⟩ | ⟨p, xs, rfl, h1, h2, h3, h4⟩
    · exact .inl ⟨d, ds, h1, h2, h3, h4, by rw [h5]; exact h⟩
    · exact .inr ⟨p, xs, rfl, .inr h1, h2, h3, by rw [h4]; exact h⟩
  · obtain ⟨c, q1, q2⟩ := Option.map_eq_some_iff.mp e
    rcases inR_ok ok q1 rx ry with ⟨d, ds, h1, h2, h3, h4, h5⟩ | ⟨p, xs, rfl, h1, h2, h3, h4⟩
    · exact .inl ⟨d, ds, h1, h2, h3, h4, by rw [h5, q2]; exact h⟩
    · exact .inr ⟨p, xs, rfl, .inr h1, h2, h3, by rw [h4]; show Q (.bl (!c)) _; rw [q2]; exact h⟩
  · cases e
/-! ### what is no part of the language -/
section
variable {nm : F → Option Str} {sc : Scope} {e : E F} {y : Expr}
theorem okE_star (h : okE nm cs N sc e y = true) (es : List Expr) (env : PySem.Env) : starEach (y :: es) env = (false, eval y env) :: starEach es env := by
  cases y with
  | Starred v p => cases e <;> cases (show false = true from h)
  | _ => rfl
theorem okE_mark (h : okE nm cs N sc e y = true) (op : CmpOp) : behindInMarks op y = false := by
  cases y with
  | Set v p => cases e <;> cases (show false = true from h)
  | _ => rfl
theorem okE_iter (h : okE nm cs N sc e y = true) (env : PySem.Env) (x : Value) : foldedSetIterable y env x = pure x := by
  cases y with
  | Set v p => cases e <;> cases (show false = true from h)
  | _ => rfl
end
/-! ### tests -/
def GoodT (G : Glo F) (C : Cf F) (cs : Cn) (N : List Str) (k : Nat) (e : E F) : Prop := tst e = true → ∀ (sc : Scope) (ast : Expr) (X : Cx) (XW : XK) (fnB : Bool), okE G.nm cs N sc e ast = true → XOk G C cs N k X XW fnB → X.env.scope = sc → PT X ast (tEvT G C X.K XW e)
theorem pt_of {X : Cx} {XW : XK} {ast : Expr} {e : E F} (h : PE X ast (tEv G C X.K XW e)) (he : ∀ whole, isTrue ast X.env whole = (do let v ← whole; standAt ast.pos; holding [v] (truthy v))) : PT X ast (tEvT G C X.K XW e) := by
  refine PT.weak (pt_val h he) fun σ H Q q => ?_
  obtain ⟨w, w0, env, rfl, ok, en, q⟩ := q
  refine ⟨w, w0, env, rfl, ok, en, q.imp fun r w' ⟨b, e, q⟩ v rv => ?_⟩
  subst e
  have rv : RW X.K w' (.bl b) v := rv
  cases rv
  exact ⟨b, rfl, q⟩
theorem tstP {t : TE} {X : Cx} {XW : XK} {e : E F} (h : ∀ σ H Q, tEv G C X.K XW e σ H Q → t σ H Q) : ∀ σ H Q, tEvT G C X.K XW e σ H Q → tTest t σ H Q := fun σ H Q q => h σ H _ (by
  obtain ⟨w, w0, env, rfl, ok, en, q⟩ := q
  refine ⟨w, w0, env, rfl, ok, en, q.imp fun r w' ⟨b, e, q⟩ v rv => ?_⟩
  subst e
  have rv : RW X.K w' (.bl b) v := rv
  cases rv
  exact ⟨b, rfl, q⟩)
theorem two_c {K : PySem.W.Frag} {XW : XK} {a b : E F} {σ : L2.St} {o : Cop} {Q : VK} {w w0 : Wd} {env : Env} (ok : WOK K w) (en : REnv K w0 w env σ)
    (h : Sat K w (ev C env (.cmp o a b) w.st) (fun r w' => ∀ v, RR K w w' r v → Q v w'.H) (xq G XW)) :
    tEv G C K XW a σ w.H fun v H1 => tEv G C K XW b σ H1 fun u H2 => rCmp K o v u H2 Q :=
  two_of (g := fun s x y => (cmpR s o (fz x) (fz y)).map fun k => .v (.bl k)) ok en h fun x y v u w' r ok1 rx ry hr h => by
    obtain ⟨c, q1, q2⟩ := Option.map_eq_some_iff.mp hr
    subst q2
    exact cmp_ok ok1 q1 rx ry (h.val ok1 (.bl c))
theorem good_cmp (o : Cop) {a b : E F} (ha : GoodE G C cs N k a) (hb : GoodE G C cs N k b) : GoodE G C cs N k (.cmp o a b) ∧ GoodT G C cs N k (.cmp o a b) := by
  have go : ∀ (sc : Scope) (ast : Expr) (X : Cx) (XW : XK) (fnB : Bool), okE G.nm cs N sc (.cmp o a b) ast = true → XOk G C cs N k X XW fnB → X.env.scope = sc → ∃ x y p, ast = .Compare x [copOp o] [y] p ∧ PE X x (tEv G C X.K XW a) ∧ PE X y (tEv G C X.K XW b) ∧ behindInMarks (copOp o) y = false := by
    intro sc ast X XW fnB h xo hsc
    cases ast with
    | Compare x qs ys p =>
      match qs, ys, h with
      | [q], [y], h =>
        replace h : (decide (q = copOp o) && okE G.nm cs N sc a x && okE G.nm cs N sc b y) = true := h
        obtain ⟨h, h3⟩ := and_t h
        obtain ⟨h1, h2⟩ := and_t h
        have h1 := of_decide_eq_true h1
        subst h1
        exact ⟨x, y, p, rfl, ha sc x X XW fnB h2 xo hsc, hb sc y X XW fnB h3 xo hsc, okE_mark h3 _⟩
    | _ => cases (show false = true from h)
  refine ⟨fun sc ast X XW fnB h xo hsc => ?_, fun _ sc ast X XW fnB h xo hsc => ?_⟩
  · obtain ⟨x, y, p, rfl, h1, h2, h3⟩ := go sc ast X XW fnB h xo hsc
    refine PE.weak (pe_cmpR (op_cmp (u65 xo.room) o) h1 h2 h3) fun σ H Q q => ?_
    obtain ⟨w, w0, env, rfl, ok, en, q⟩ := q
    exact two_c ok en q
  · obtain ⟨x, y, p, rfl, h1, h2, h3⟩ := go sc ast X XW fnB h xo hsc
    refine PT.weak (pt_cmpR (op_cmp (u65 xo.room) o) h1 h2 h3) (tstP fun σ H Q q => ?_)
    obtain ⟨w, w0, env, rfl, ok, en, q⟩ := q
    exact two_c ok en q
theorem Sat.ofB {K : PySem.W.Frag} {w : Wd} {o : Option Bool} {f : Bool → Sto → Rs R} {P : R → Wd → Prop} {Z : Str → List AV → Wd → Prop} (h : Sat K w ((Rs.of o w.st).bind f) P Z) : ∃ c, o = some c ∧ Sat K w (f c w.st) P Z := by
  cases o with
  | none => exact (h : False).elim
  | some c => exact ⟨c, rfl, h⟩
theorem chain_ok {K : PySem.W.Frag} {XW : XK} {a b : E F} {σ : L2.St} {o : Cop} {Q : VK} {w w0 : Wd} {env : Env} {f : R → Sto → Rs R} (ok : WOK K w) (en : REnv K w0 w env σ)
    (h : Sat K w ((ev C env a w.st).bind fun x s => (ev C env b s).bind fun y s => (Rs.of (cmpR s o (fz x) (fz y)) s).bind fun k s => match k with
      | false => .ok (.v (.bl false)) s
      | true => f y s) (fun r w' => ∀ v, RR K w w' r v → Q v w'.H) (xq G XW)) {Q' : V → V → Hp → Prop}
    (k : ∀ y u w', Ext w w' → WOK K w' → REnv K w0 w' env σ → RR K w w' y u → Sat K w' (f y w'.st) (fun r w2 => ∀ v, RR K w' w2 r v → Q v w2.H) (xq G XW) → ∀ v, Q' v u w'.H) :
    tEv G C K XW a σ w.H fun v H1 => tEv G C K XW b σ H1 fun u H2 => rCmp K o v u H2 fun z H3 => ∃ k, z = .bl k ∧ (if k = true then Q' v u H3 else Q (.bl false) H3) :=
  two ok en h fun x y v u w' e1 ok1 en1 rx ry h => by
    obtain ⟨c, hc, h⟩ := Sat.ofB h
    refine cmp_ok ok1 hc rx.rc ry.rc ⟨c, rfl, ?_⟩
    cases c with
    | false =>
      refine iteF ?_
      exact (h.here rfl ok1) _ (.bl false)
    | true =>
      refine iteT (k y u w' e1 ok1 en1 ry (h.imp fun r w2 q v rv => q v (rv.back e1)) v)
/-- .. o3 d -/
def tChain3 (r r' r'' : R2) (ta tb tc td : TE) : TE := fun σ H Q => ta σ H fun x H1 => tb σ H1 fun y H2 => r x y H2 fun z H3 => ∃ k, z = .bl k ∧
  (if k = true then (tc σ H3 fun w' H4 => r' y w' H4 fun z2 H5 => ∃ k2, z2 = .bl k2 ∧ (if k2 = true then td σ H5 fun u H6 => r'' w' u H6 Q else Q (.bl false) H5)) else Q (.bl false) H3)
section
variable {X : Cx} {a b c d : Expr} {ta tb tc td : TE} {pos : Pos}
theorem pe_chain3 {op op' op'' : CmpOp} {r r' r'' : R2} (ho : OpR X (compareOp op) r) (ho' : OpR X (compareOp op') r') (ho'' : OpR X (compareOp op'') r'') (ha : PE X a ta) (hb : PE X b tb) (hc : PE X c tc) (hd : PE X d td)
    (hm : lastMarks [op, op', op''] [b, c, d] = false) : PE X (.Compare a [op, op', op''] [b, c, d] pos) (tChain3 r r' r'' ta tb tc td) := by
  refine ⟨fun pins s σ H Q I h => ?_⟩
  refine Compare_chain (thn (ha.run pins s σ H _ I h) fun v s1 ⟨x, H1, I1, r1, q1⟩ => chain_link (thn (hb.run pins s1 σ H1 _ I1 q1) fun u s2 ⟨y, H2, I2, r2, q2⟩ =>
    thn (ho pins s2 σ H2 x y v u _ I2 r1 r2 q2) fun d s3 ⟨z, H3, I3, r3, k, e, q3⟩ => ?_)) hm
  subst e
  cases r3
  refine wpAny_truthy_bool ?_
  cases k with
  | false => exact ite_ff ⟨.bl false, H3, I3, rfl, q3⟩
  | true =>
    refine ite_tt (chain_link (thn (hc.run pins s3 σ H3 _ I3 q3) fun w' s4 ⟨z', H4, I4, r4, q4⟩ => thn (ho' pins s4 σ H4 y z' u w' _ I4 r2 r4 q4) fun d2 s5 ⟨z2, H5, I5, r5, k2, e2, q5⟩ => ?_))
    subst e2
    cases r5
    refine wpAny_truthy_bool ?_
    cases k2 with
    | false => exact ite_ff ⟨.bl false, H5, I5, rfl, q5⟩
    | true => exact ite_tt (chain_last (thn (hd.run pins s5 σ H5 _ I5 q5) fun w6 s6 ⟨z6, H6, I6, r6, q6⟩ => ho'' pins s6 σ H6 z' z6 w' w6 Q I6 r4 r6 q6))
theorem pt_chain3 {op op' op'' : CmpOp} {r r' r'' : R2} (ho : OpR X (compareOp op) r) (ho' : OpR X (compareOp op') r') (ho'' : OpR X (compareOp op'') r'') (ha : PE X a ta) (hb : PE X b tb) (hc : PE X c tc) (hd : PE X d td)
    (hm : lastMarks [op, op', op''] [b, c, d] = false) : PT X (.Compare a [op, op', op''] [b, c, d] pos) (tTest (tChain3 r r' r'' ta tb tc td)) := by
  refine ⟨fun pins s σ H Q I h => ?_⟩
  refine isTrue_chain (thn (ha.run pins s σ H _ I h) fun v s1 ⟨x, H1, I1, r1, q1⟩ => test_link (thn (hb.run pins s1 σ H1 _ I1 q1) fun u s2 ⟨y, H2, I2, r2, q2⟩ =>
    thn (ho pins s2 σ H2 x y v u _ I2 r1 r2 q2) fun d s3 ⟨z, H3, I3, r3, k, e, q3⟩ => ?_)) hm
  subst e
  cases r3
  refine wpAny_truthy_bool ?_
  cases k with
  | false =>
    obtain ⟨k', e', q'⟩ := q3
    cases e'
    exact ite_ff ⟨H3, I3, q'⟩
  | true =>
    refine ite_tt (test_link (thn (hc.run pins s3 σ H3 _ I3 q3) fun w' s4 ⟨z', H4, I4, r4, q4⟩ => thn (ho' pins s4 σ H4 y z' u w' _ I4 r2 r4 q4) fun d2 s5 ⟨z2, H5, I5, r5, k2, e2, q5⟩ => ?_))
    subst e2
    cases r5
    refine wpAny_truthy_bool ?_
    cases k2 with
    | false =>
      obtain ⟨k', e', q'⟩ := q5
      cases e'
      exact ite_ff ⟨H5, I5, q'⟩
    | true =>
      refine ite_tt (test_last (thn (hd.run pins s5 σ H5 _ I5 q5) fun w6 s6 ⟨z6, H6, I6, r6, q6⟩ => thn (ho'' pins s6 σ H6 z' z6 w' w6 _ I6 r4 r6 q6) fun d' s7 ⟨z7, H7, I7, r7, k7, e7, q7⟩ => ?_))
      subst e7
      cases r7
      exact wpAny_truthy_bool ⟨H7, I7, q7⟩
end
theorem RR.rcx {K : PySem.W.Frag} {w w1 w2 : Wd} {r : R} {v : V} (h : RR K w w1 r v) (e1 : Ext w w1) (ok : WOK K w1) (e : Ext w1 w2) : RC K w2 (fz r) v := (h.ext e1 ok e).rc
/-- the last link -/
theorem link_ok {K : PySem.W.Frag} {XW : XK} {c : E F} {σ : L2.St} {o : Cop} {Q : VK} {w w1 w0 : Wd} {env : Env} {y : R} {u : V} (e : Ext w w1) (ok : WOK K w1) (en : REnv K w0 w1 env σ) (ry : RR K w w1 y u)
    (h : Sat K w1 ((ev C env c w1.st).bind fun z s => Rs.of ((cmpR s o (fz y) (fz z)).map fun k => R.v (.bl k)) s) (fun r w2 => ∀ v, RR K w1 w2 r v → Q v w2.H) (xq G XW)) :
    tEv G C K XW c σ w1.H fun t H4 => rCmp K o u t H4 Q :=
  ⟨w1, w0, env, rfl, ok, en, h.bind.imp fun z w2 ⟨e2, ok2, h2⟩ t rz => by
    obtain ⟨r, hr, h3⟩ := ans_of e2 h2
    obtain ⟨c, q1, q2⟩ := Option.map_eq_some_iff.mp hr
    subst q2
    exact cmp_ok ok2 q1 (ry.rcx e ok e2) rz.rc (h3.val ok2 (.bl c))⟩
theorem link2_ok {K : PySem.W.Frag} {XW : XK} {c d : E F} {σ : L2.St} {p q : Cop} {Q : VK} {w w1 w0 : Wd} {env : Env} {y : R} {u : V} (e : Ext w w1) (ok : WOK K w1) (en : REnv K w0 w1 env σ) (ry : RR K w w1 y u)
    (h : Sat K w1 ((ev C env c w1.st).bind fun z s => (Rs.of (cmpR s p (fz y) (fz z)) s).bind fun k s => match k with
      | false => .ok (.v (.bl false)) s
      | true => (ev C env d s).bind fun u s => .of ((cmpR s q (fz z) (fz u)).map fun k => .v (.bl k)) s) (fun r w2 => ∀ v, RR K w1 w2 r v → Q v w2.H) (xq G XW)) :
    tEv G C K XW c σ w1.H fun t H4 => rCmp K p u t H4 fun z2 H5 => ∃ k2, z2 = .bl k2 ∧ (if k2 = true then tEv G C K XW d σ H5 fun u H6 => rCmp K q t u H6 Q else Q (.bl false) H5) :=
  ⟨w1, w0, env, rfl, ok, en, h.bind.imp fun z w2 ⟨e2, ok2, h2⟩ t rz => by
    obtain ⟨c, hc, h3⟩ := Sat.ofB h2
    refine cmp_ok ok2 hc (ry.rcx e ok e2) rz.rc ⟨c, rfl, ?_⟩
    cases c with
    | false => exact iteF ((h3.here rfl ok2) _ (.bl false))
    | true => exact iteT (link_ok e2 ok2 (en.ext ok e2) rz (h3.imp fun r w3 q v rv => q v (rv.back e2)))⟩
theorem two_ch2 {K : PySem.W.Frag} {XW : XK} {a b c : E F} {σ : L2.St} {o p : Cop} {Q : VK} (q : tEv G C K XW (.ch2 o p a b c) σ H Q) :
    tChain (rCmp K o) (rCmp K p) (tEv G C K XW a) (tEv G C K XW b) (tEv G C K XW c) σ H Q := by
  obtain ⟨w, w0, env, rfl, ok, en, q⟩ := q
  exact chain_ok ok en q fun y u w' e1 ok1 en1 ry h v => link_ok e1 ok1 en1 ry h
theorem two_ch3 {K : PySem.W.Frag} {XW : XK} {a b c d : E F} {σ : L2.St} {o p q : Cop} {Q : VK} (z : tEv G C K XW (.ch3 o p q a b c d) σ H Q) :
    tChain3 (rCmp K o) (rCmp K p) (rCmp K q) (tEv G C K XW a) (tEv G C K XW b) (tEv G C K XW c) (tEv G C K XW d) σ H Q := by
  obtain ⟨w, w0, env, rfl, ok, en, z⟩ := z
  exact chain_ok ok en z fun y u w' e1 ok1 en1 ry h v => link2_ok e1 ok1 en1 ry h
theorem good_ch2 (o p : Cop) {a b c : E F} (ha : GoodE G C cs N k a) (hb : GoodE G C cs N k b) (hc : GoodE G C cs N k c) : GoodE G C cs N k (.ch2 o p a b c) ∧ GoodT G C cs N k (.ch2 o p a b c) := by
  have go : ∀ (sc : Scope) (ast : Expr) (X : Cx) (XW : XK) (fnB : Bool), okE G.nm cs N sc (.ch2 o p a b c) ast = true → XOk G C cs N k X XW fnB → X.env.scope = sc → ∃ x y z ps, ast = .Compare x [copOp o, copOp p] [y, z] ps ∧ PE X x (tEv G C X.K XW a) ∧ PE X y (tEv G C X.K XW b) ∧ PE X z (tEv G C X.K XW c) ∧ lastMarks [copOp o, copOp p] [y, z] = false := by
    intro sc ast X XW fnB h xo hsc
    cases ast with
    | Compare x qs ys ps =>
      match qs, ys, h with
      | [q, r], [y, z], h =>
        replace h : (decide (q = copOp o) && decide (r = copOp p) && okE G.nm cs N sc a x && okE G.nm cs N sc b y && okE G.nm cs N sc c z) = true := h
        obtain ⟨h, h5⟩ := and_t h
        obtain ⟨h, h4⟩ := and_t h
        obtain ⟨h, h3⟩ := and_t h
        obtain ⟨h1, h2⟩ := and_t h
        have h1 := of_decide_eq_true h1
        have h2 := of_decide_eq_true h2
        subst h1 h2
        exact ⟨x, y, z, ps, rfl, ha sc x X XW fnB h3 xo hsc, hb sc y X XW fnB h4 xo hsc, hc sc z X XW fnB h5 xo hsc, okE_mark h5 _⟩
    | _ => cases (show false = true from h)
  refine ⟨fun sc ast X XW fnB h xo hsc => ?_, fun _ sc ast X XW fnB h xo hsc => ?_⟩
  · obtain ⟨x, y, z, ps, rfl, h1, h2, h3, h4⟩ := go sc ast X XW fnB h xo hsc
    exact PE.weak (pe_chain (op_cmp (u65 xo.room) o) (op_cmp (u65 xo.room) p) h1 h2 h3 h4) fun σ H Q q => two_ch2 q
  · obtain ⟨x, y, z, ps, rfl, h1, h2, h3, h4⟩ := go sc ast X XW fnB h xo hsc
    exact PT.weak (pt_chain (op_cmp (u65 xo.room) o) (op_cmp (u65 xo.room) p) h1 h2 h3 h4) (tstP fun σ H Q q => two_ch2 q)
theorem good_ch3 (o p q : Cop) {a b c d : E F} (ha : GoodE G C cs N k a) (hb : GoodE G C cs N k b) (hc : GoodE G C cs N k c) (hd : GoodE G C cs N k d) : GoodE G C cs N k (.ch3 o p q a b c d) ∧ GoodT G C cs N k (.ch3 o p q a b c d) := by
  have go : ∀ (sc : Scope) (ast : Expr) (X : Cx) (XW : XK) (fnB : Bool), okE G.nm cs N sc (.ch3 o p q a b c d) ast = true → XOk G C cs N k X XW fnB → X.env.scope = sc → ∃ x y z u ps, ast = .Compare x [copOp o, copOp p, copOp q] [y, z, u] ps ∧ PE X x (tEv G C X.K XW a) ∧ PE X y (tEv G C X.K XW b) ∧ PE X z (tEv G C X.K XW c) ∧ PE X u (tEv G C X.K XW d) ∧ lastMarks [copOp o, copOp p, copOp q] [y, z, u] = false := by
    intro sc ast X XW fnB h xo hsc
    cases ast with
    | Compare x qs ys ps =>
      match qs, ys, h with
      | [o', p', q'], [y, z, u], h =>
        replace h : (decide (o' = copOp o) && decide (p' = copOp p) && decide (q' = copOp q) && okE G.nm cs N sc a x && okE G.nm cs N sc b y && okE G.nm cs N sc c z && okE G.nm cs N sc d u) = true := h
        obtain ⟨h, h7⟩ := and_t h
        obtain ⟨h, h6⟩ := and_t h
        obtain ⟨h, h5⟩ := and_t h
        obtain ⟨h, h4⟩ := and_t h
        obtain ⟨h, h3⟩ := and_t h
        obtain ⟨h1, h2⟩ := and_t h
        have h1 := of_decide_eq_true h1
        have h2 := of_decide_eq_true h2
        have h3 := of_decide_eq_true h3
        subst h1 h2 h3
        exact ⟨x, y, z, u, ps, rfl, ha sc x X XW fnB h4 xo hsc, hb sc y X XW fnB h5 xo hsc, hc sc z X XW fnB h6 xo hsc, hd sc u X XW fnB h7 xo hsc, okE_mark h7 _⟩
    | _ => cases (show false = true from h)
  refine ⟨fun sc ast X XW fnB h xo hsc => ?_, fun _ sc ast X XW fnB h xo hsc => ?_⟩
  · obtain ⟨x, y, z, u, ps, rfl, h1, h2, h3, h4, h5⟩ := go sc ast X XW fnB h xo hsc
    exact PE.weak (pe_chain3 (op_cmp (u65 xo.room) o) (op_cmp (u65 xo.room) p) (op_cmp (u65 xo.room) q) h1 h2 h3 h4 h5) fun σ H Q q => two_ch3 q
  · obtain ⟨x, y, z, u, ps, rfl, h1, h2, h3, h4, h5⟩ := go sc ast X XW fnB h xo hsc
    exact PT.weak (pt_chain3 (op_cmp (u65 xo.room) o) (op_cmp (u65 xo.room) p) (op_cmp (u65 xo.room) q) h1 h2 h3 h4 h5) (tstP fun σ H Q q => two_ch3 q)
/-! ### not, and, or -/
theorem bl_of {r : R} {b : Bool} (h : bl? r = some b) : r = .v (.bl b) := by
  unfold bl? at h
  split at h
  · cases h; rfl
  · cases h
theorem Sat.bl {K : PySem.W.Frag} {α : Type} {w : Wd} {r : R} {f : Bool → Sto → Rs α} {P : α → Wd → Prop} {Z : Str → List AV → Wd → Prop} (h : Sat K w ((Rs.of (bl? r) w.st).bind f) P Z) : ∃ c, r = .v (.bl c) ∧ Sat K w (f c w.st) P Z := by
  cases e : bl? r with
  | none => rw [e] at h; exact (h : False).elim
  | some c =>
    rw [e] at h
    exact ⟨c, bl_of e, h⟩
theorem Sat.blm {K : PySem.W.Frag} {w : Wd} {r : R} {f : Bool → Bool} {P : R → Wd → Prop} {Z : Str → List AV → Wd → Prop} (ok : WOK K w) (h : Sat K w (Rs.of ((bl? r).map fun k => R.v (.bl (f k))) w.st) P Z) : ∃ c, r = .v (.bl c) ∧ P (.v (.bl (f c))) w := by
  cases e : bl? r with
  | none => rw [e] at h; exact (h : False).elim
  | some c =>
    rw [e] at h
    exact ⟨c, bl_of e, h w rfl (Ext.refl w) ok⟩
theorem good_not {a : E F} (ha : GoodE G C cs N k a) (ht : GoodT G C cs N k a) : GoodE G C cs N k (.not a) ∧ GoodT G C cs N k (.not a) := by
  refine ⟨fun sc ast X XW fnB h xo hsc => ?_, fun t sc ast X XW fnB h xo hsc => ?_⟩
  · cases ast with
    | UnaryOp o x p =>
      cases o with
      | Not =>
        refine PE.weak (pe_not (ha sc x X XW fnB h xo hsc)) fun σ H Q q => ?_
        obtain ⟨w, w0, env, rfl, ok, en, q⟩ := q
        refine ⟨w, w0, env, rfl, ok, en, q.bind.imp fun r w1 ⟨e1, ok1, h1⟩ v rv => ?_⟩
        obtain ⟨c, rfl, h2⟩ := Sat.blm ok1 h1
        have rv : RW X.K w1 (.bl c) v := rv
        cases rv
        exact ⟨c, rfl, h2 _ (.bl _)⟩
      | _ => cases (show false = true from h)
    | _ => cases (show false = true from h)
  · cases ast with
    | UnaryOp o x p =>
      cases o with
      | Not =>
        refine PT.weak (pt_not (ht t sc x X XW fnB h xo hsc)) fun σ H Q q => ?_
        obtain ⟨w, w0, env, rfl, ok, en, q⟩ := q
        refine ⟨w, w0, env, rfl, ok, en, q.bind.imp fun r w1 ⟨e1, ok1, h1⟩ => ?_⟩
        obtain ⟨c, rfl, b, h2, h3⟩ := Sat.blm ok1 h1
        cases h2
        exact ⟨c, rfl, h3⟩
      | _ => cases (show false = true from h)
    | _ => cases (show false = true from h)

def tLAnd (G : Glo F) (C : Cf F) (K : PySem.W.Frag) (XW : XK) (es : Es F) : TE := fun σ H Q => ∃ w w0 env, w.H = H ∧ WOK K w ∧ REnv K w0 w env σ ∧ Sat K w (evAnd C env es w.st) (fun r w' => ∀ v, RR K w w' r v → Q v w'.H) (xq G XW)
def tLAndT (G : Glo F) (C : Cf F) (K : PySem.W.Frag) (XW : XK) (es : Es F) : TT := fun σ H Q => ∃ w w0 env, w.H = H ∧ WOK K w ∧ REnv K w0 w env σ ∧ Sat K w (evAnd C env es w.st) (fun r w' => ∃ b, r = .v (.bl b) ∧ Q b w'.H) (xq G XW)
def GoodAnd (G : Glo F) (C : Cf F) (cs : Cn) (N : List Str) (k : Nat) (es : Es F) : Prop := ∀ (sc : Scope) (xs : List Expr) (p : Pos) (X : Cx) (XW : XK) (fnB : Bool), okEs G.nm cs N sc es xs = true → XOk G C cs N k X XW fnB → X.env.scope = sc →
  (∀ b0 es', es = .cons b0 es' → PE X (.BoolOp .And xs p) (tLAnd G C X.K XW es)) ∧ (∀ b0 es', es = .cons b0 es' → tsts es = true → PW X (.BoolOp .And xs p) (tLAndT G C X.K XW es))
theorem good_and_one {a : E F} (ha : GoodE G C cs N k a) (ht : GoodT G C cs N k a) : GoodAnd G C cs N k (.cons a .nil) := by
  intro sc xs p X XW fnB h xo hsc
  match xs, h with
  | [x], h =>
    replace h : (okE G.nm cs N sc a x && okEs G.nm cs N sc .nil []) = true := h
    obtain ⟨h1, _⟩ := and_t h
    refine ⟨fun _ _ _ => PE.weak (pe_one (ha sc x X XW fnB h1 xo hsc)) fun σ H Q q => ?_, fun _ _ _ t => PW.weak (pw_and1 (ht (and_t t).1 sc x X XW fnB h1 xo hsc)) fun σ H Q q => ?_⟩
    · obtain ⟨w, w0, env, rfl, ok, en, q⟩ := q
      refine ⟨w, w0, env, rfl, ok, en, q.bind.imp fun r w1 ⟨e1, ok1, h1⟩ v rv => ?_⟩
      obtain ⟨c, rfl, h2⟩ := Sat.blm (f := fun k => k) ok1 h1
      exact h2 v rv
    · obtain ⟨w, w0, env, rfl, ok, en, q⟩ := q
      refine ⟨w, w0, env, rfl, ok, en, q.bind.imp fun r w1 ⟨e1, ok1, h1⟩ => ?_⟩
      obtain ⟨c, rfl, b, h2, h3⟩ := Sat.blm (f := fun k => k) ok1 h1
      cases h2
      exact ⟨_, rfl, h3⟩
  | x :: y :: ys, h =>
    replace h : (okE G.nm cs N sc a x && false) = true := h
    cases (and_t h).2
theorem good_and_cons {a b0 : E F} {es : Es F} (ha : GoodE G C cs N k a) (ht : GoodT G C cs N k a) (hs : GoodAnd G C cs N k (.cons b0 es)) : GoodAnd G C cs N k (.cons a (.cons b0 es)) := by
  intro sc xs p X XW fnB h xo hsc
  match xs, h with
  | [x], h =>
    replace h : (okE G.nm cs N sc a x && false) = true := h
    cases (and_t h).2
  | x :: y :: ys, h =>
    replace h : (okE G.nm cs N sc a x && okEs G.nm cs N sc (.cons b0 es) (y :: ys)) = true := h
    obtain ⟨h1, h2⟩ := and_t h
    obtain ⟨k1, k2⟩ := hs sc (y :: ys) p X XW fnB h2 xo hsc
    refine ⟨fun _ _ _ => PE.weak (pe_and (ha sc x X XW fnB h1 xo hsc) (k1 _ _ rfl)) fun σ H Q q => ?_, fun _ _ _ t => PW.weak (pw_and (ht (and_t t).1 sc x X XW fnB h1 xo hsc) (k2 _ _ rfl (and_t t).2)) fun σ H Q q => ?_⟩
    · obtain ⟨w, w0, env, rfl, ok, en, q⟩ := q
      refine ⟨w, w0, env, rfl, ok, en, q.bind.imp fun r w1 ⟨e1, ok1, h1⟩ v rv => ?_⟩
      obtain ⟨c, rfl, h2⟩ := Sat.bl h1
      have rv : RW X.K w1 (.bl c) v := rv
      cases rv
      refine ⟨c, rfl, ?_⟩
      cases c with
      | false => exact iteF ((h2.here rfl ok1) _ (.bl false))
      | true => exact iteT ⟨w1, w0, env, rfl, ok1, en.ext ok e1, h2.imp fun r w2 q v rv => q v (rv.back e1)⟩
    · obtain ⟨w, w0, env, rfl, ok, en, q⟩ := q
      refine ⟨w, w0, env, rfl, ok, en, q.bind.imp fun r w1 ⟨e1, ok1, h1⟩ => ?_⟩
      obtain ⟨c, rfl, h2⟩ := Sat.bl h1
      refine ⟨c, rfl, ?_⟩
      cases c with
      | false =>
        obtain ⟨b, q1, q2⟩ := h2.here rfl ok1
        cases q1
        exact iteF q2
      | true => exact iteT ⟨w1, w0, env, rfl, ok1, en.ext ok e1, h2⟩
theorem good_and {b0 : E F} {es : Es F} (hs : GoodAnd G C cs N k (.cons b0 es)) : GoodE G C cs N k (.and (.cons b0 es)) ∧ GoodT G C cs N k (.and (.cons b0 es)) := by
  refine ⟨fun sc ast X XW fnB h xo hsc => ?_, fun t sc ast X XW fnB h xo hsc => ?_⟩
  · cases ast with
    | BoolOp o xs p =>
      cases o with
      | And => exact (hs sc xs p X XW fnB h xo hsc).1 _ _ rfl
      | _ => cases (show false = true from h)
    | _ => cases (show false = true from h)
  · cases ast with
    | BoolOp o xs p =>
      cases o with
      | And => exact PW.pt ((hs sc xs p X XW fnB h xo hsc).2 _ _ rfl t)
      | _ => cases (show false = true from h)
    | _ => cases (show false = true from h)

def tLOr (G : Glo F) (C : Cf F) (K : PySem.W.Frag) (XW : XK) (es : Es F) : TE := fun σ H Q => ∃ w w0 env, w.H = H ∧ WOK K w ∧ REnv K w0 w env σ ∧ Sat K w (evOr C env es w.st) (fun r w' => ∀ v, RR K w w' r v → Q v w'.H) (xq G XW)
def tLOrT (G : Glo F) (C : Cf F) (K : PySem.W.Frag) (XW : XK) (es : Es F) : TT := fun σ H Q => ∃ w w0 env, w.H = H ∧ WOK K w ∧ REnv K w0 w env σ ∧ Sat K w (evOr C env es w.st) (fun r w' => ∃ b, r = .v (.bl b) ∧ Q b w'.H) (xq G XW)
def GoodOr (G : Glo F) (C : Cf F) (cs : Cn) (N : List Str) (k : Nat) (es : Es F) : Prop := ∀ (sc : Scope) (xs : List Expr) (p : Pos) (X : Cx) (XW : XK) (fnB : Bool), okEs G.nm cs N sc es xs = true → XOk G C cs N k X XW fnB → X.env.scope = sc →
  (∀ b0 es', es = .cons b0 es' → PE X (.BoolOp .Or xs p) (tLOr G C X.K XW es)) ∧ (∀ b0 es', es = .cons b0 es' → tsts es = true → PW X (.BoolOp .Or xs p) (tLOrT G C X.K XW es))
theorem good_or_one {a : E F} (ha : GoodE G C cs N k a) (ht : GoodT G C cs N k a) : GoodOr G C cs N k (.cons a .nil) := by
  intro sc xs p X XW fnB h xo hsc
  match xs, h with
  | [x], h =>
    replace h : (okE G.nm cs N sc a x && okEs G.nm cs N sc .nil []) = true := h
    obtain ⟨h1, _⟩ := and_t h
    refine ⟨fun _ _ _ => PE.weak (pe_one (ha sc x X XW fnB h1 xo hsc)) fun σ H Q q => ?_, fun _ _ _ t => PW.weak (pw_or1 (ht (and_t t).1 sc x X XW fnB h1 xo hsc)) fun σ H Q q => ?_⟩
    · obtain ⟨w, w0, env, rfl, ok, en, q⟩ := q
      refine ⟨w, w0, env, rfl, ok, en, q.bind.imp fun r w1 ⟨e1, ok1, h1⟩ v rv => ?_⟩
      obtain ⟨c, rfl, h2⟩ := Sat.blm (f := fun k => k) ok1 h1
      exact h2 v rv
    · obtain ⟨w, w0, env, rfl, ok, en, q⟩ := q
      refine ⟨w, w0, env, rfl, ok, en, q.bind.imp fun r w1 ⟨e1, ok1, h1⟩ => ?_⟩
      obtain ⟨c, rfl, b, h2, h3⟩ := Sat.blm (f := fun k => k) ok1 h1
      cases h2
      exact ⟨_, rfl, h3⟩
  | x :: y :: ys, h =>
    replace h : (okE G.nm cs N sc a x && false) = true := h
    cases (and_t h).2
theorem good_or_cons {a b0 : E F} {es : Es F} (ha : GoodE G C cs N k a) (ht : GoodT G C cs N k a) (hs : GoodOr G C cs N k (.cons b0 es)) : GoodOr G C cs N k (.cons a (.cons b0 es)) := by
  intro sc xs p X XW fnB h xo hsc
  match xs, h with
  | [x], h =>
    replace h : (okE G.nm cs N sc a x && false) = true := h
    cases (and_t h).2
  | x :: y :: ys, h =>
    replace h : (okE G.nm cs N sc a x && okEs G.nm cs N sc (.cons b0 es) (y :: ys)) = true := h
    obtain ⟨h1, h2⟩ := and_t h
    obtain ⟨k1, k2⟩ := hs sc (y :: ys) p X XW fnB h2 xo hsc
    refine ⟨fun _ _ _ => PE.weak (pe_or (ha sc x X XW fnB h1 xo hsc) (k1 _ _ rfl)) fun σ H Q q => ?_, fun _ _ _ t => PW.weak (pw_or (ht (and_t t).1 sc x X XW fnB h1 xo hsc) (k2 _ _ rfl (and_t t).2)) fun σ H Q q => ?_⟩
    · obtain ⟨w, w0, env, rfl, ok, en, q⟩ := q
      refine ⟨w, w0, env, rfl, ok, en, q.bind.imp fun r w1 ⟨e1, ok1, h1⟩ v rv => ?_⟩
      obtain ⟨c, rfl, h2⟩ := Sat.bl h1
      have rv : RW X.K w1 (.bl c) v := rv
      cases rv
      refine ⟨c, rfl, ?_⟩
      cases c with
      | true => exact iteT ((h2.here rfl ok1) _ (.bl true))
      | false => exact iteF ⟨w1, w0, env, rfl, ok1, en.ext ok e1, h2.imp fun r w2 q v rv => q v (rv.back e1)⟩
    · obtain ⟨w, w0, env, rfl, ok, en, q⟩ := q
      refine ⟨w, w0, env, rfl, ok, en, q.bind.imp fun r w1 ⟨e1, ok1, h1⟩ => ?_⟩
      obtain ⟨c, rfl, h2⟩ := Sat.bl h1
      refine ⟨c, rfl, ?_⟩
      cases c with
      | true =>
        obtain ⟨b, q1, q2⟩ := h2.here rfl ok1
        cases q1
        exact iteT q2
      | false => exact iteF ⟨w1, w0, env, rfl, ok1, en.ext ok e1, h2⟩
theorem good_or {b0 : E F} {es : Es F} (hs : GoodOr G C cs N k (.cons b0 es)) : GoodE G C cs N k (.or (.cons b0 es)) ∧ GoodT G C cs N k (.or (.cons b0 es)) := by
  refine ⟨fun sc ast X XW fnB h xo hsc => ?_, fun t sc ast X XW fnB h xo hsc => ?_⟩
  · cases ast with
    | BoolOp o xs p =>
      cases o with
      | Or => exact (hs sc xs p X XW fnB h xo hsc).1 _ _ rfl
      | _ => cases (show false = true from h)
    | _ => cases (show false = true from h)
  · cases ast with
    | BoolOp o xs p =>
      cases o with
      | Or => exact PW.pt ((hs sc xs p X XW fnB h xo hsc).2 _ _ rfl t)
      | _ => cases (show false = true from h)
    | _ => cases (show false = true from h)

theorem PE.never {X : Cx} {e : Expr} {t : TE} (h : ∀ σ H Q, t σ H Q → False) : PE X e t := ⟨fun _ _ σ H Q _ q => (h σ H Q q).elim⟩
theorem PT.never {X : Cx} {e : Expr} {t : TT} (h : ∀ σ H Q, t σ H Q → False) : PT X e t := ⟨fun _ _ σ H Q _ q => (h σ H Q q).elim⟩
theorem good_and0 : GoodE G C cs N k (.and .nil) ∧ GoodT G C cs N k (.and .nil) :=
  ⟨fun sc ast X XW fnB h xo hsc => PE.never fun σ H Q ⟨_, _, _, _, _, _, q⟩ => q, fun _ sc ast X XW fnB h xo hsc => PT.never fun σ H Q ⟨_, _, _, _, _, _, q⟩ => q⟩
theorem good_or0 : GoodE G C cs N k (.or .nil) ∧ GoodT G C cs N k (.or .nil) :=
  ⟨fun sc ast X XW fnB h xo hsc => PE.never fun σ H Q ⟨_, _, _, _, _, _, q⟩ => q, fun _ sc ast X XW fnB h xo hsc => PT.never fun σ H Q ⟨_, _, _, _, _, _, q⟩ => q⟩
/-! ### a conditional -/
theorem good_ife {c a b : E F} (hc : GoodT G C cs N k c) (ha : GoodE G C cs N k a) (hb : GoodE G C cs N k b) : GoodE G C cs N k (.ife c a b) := by
  intro sc ast X XW fnB h xo hsc
  cases ast with
  | IfExp z x y p =>
    replace h : (tst c && okE G.nm cs N sc c z && okE G.nm cs N sc a x && okE G.nm cs N sc b y) = true := h
    obtain ⟨h, h4⟩ := and_t h
    obtain ⟨h, h3⟩ := and_t h
    obtain ⟨h1, h2⟩ := and_t h
    refine PE.weak (pe_ifExp (hc h1 sc z X XW fnB h2 xo hsc) (ha sc x X XW fnB h3 xo hsc) (hb sc y X XW fnB h4 xo hsc)) fun σ H Q q => ?_
    obtain ⟨w, w0, env, rfl, ok, en, q⟩ := q
    refine ⟨w, w0, env, rfl, ok, en, q.bind.imp fun r w1 ⟨e1, ok1, h1⟩ => ?_⟩
    obtain ⟨c, rfl, h2⟩ := Sat.bl h1
    refine ⟨c, rfl, ?_⟩
    cases c with
    | true => exact iteT ⟨w1, w0, env, rfl, ok1, en.ext ok e1, h2.imp fun r w2 q v rv => q v (rv.back e1)⟩
    | false => exact iteF ⟨w1, w0, env, rfl, ok1, en.ext ok e1, h2.imp fun r w2 q v rv => q v (rv.back e1)⟩
  | _ => cases (show false = true from h)
/-! ### subscripts, slices -/
theorem okE_ix {nm : F → Option Str} {sc : Scope} {e : E F} {y : Expr} (h : okE nm cs N sc e y = true) : PlainIx y := by
  cases y with
  | Slice a b c p => cases e <;> cases (show false = true from h)
  | _ => exact fun _ _ => rfl
theorem atI_get {A : Type} {l : List A} {i : Int} {a : A} (h : atI l i = some a) : ∃ j, ixN l.length i = some j ∧ l[j]? = some a := by
  unfold atI at h
  cases e : ixN l.length i with
  | none => rw [e] at h; cases h
  | some j => rw [e] at h; exact ⟨j, rfl, h⟩
theorem RAs.at {K : PySem.W.Frag} {ro fb : List Addr} {H : Hp} {l : List AV} {vs : List V} {i : Int} {a : AV} (h : RAs K ro fb H l vs) (e : atI l i = some a) : ∃ v, atI vs i = some v ∧ RA K ro fb H a v := by
  obtain ⟨j, h1, h2⟩ := atI_get e
  obtain ⟨v, h3, h4⟩ := h.get h2
  refine ⟨v, ?_, h4⟩
  unfold atI
  rw [← h.length, h1]
  exact h3
/-- a sequence's items, by the heap -/
theorem seq_ok {K : PySem.W.Frag} {w : Wd} {x : R} {v : V} {l : List AV} (ok : WOK K w) (e : seqOf w.st x = some l) (h : RC K w x v) : ∃ a vs, v = .ref a ∧ RWs K w l vs ∧ (isTup x = true → SqT K w.H a vs) ∧ (isTup x = false → SqL K w.H a vs) := by
  have lst : isTup x = false → (∃ a, v = .ref a ∧ RCt K w a (.lst l)) → ∃ a vs, v = .ref a ∧ RWs K w l vs ∧ (isTup x = true → SqT K w.H a vs) ∧ (isTup x = false → SqL K w.H a vs) := fun z h => by
    obtain ⟨a, rfl, vs, h1, _, h2⟩ := h
    exact ⟨a, vs, rfl, h2, fun q => (by rw [z] at q; cases q), fun _ => SqL.of h1⟩
  unfold seqOf at e
  split at e
  · cases e
    obtain ⟨a, vs, rfl, h1, h2⟩ := RC.tup h
    exact ⟨a, vs, rfl, h2, fun _ => h1, fun q => by cases q⟩
  · cases e; exact lst rfl h
  · split at e
    · rename_i q
      cases e
      have h : RW K w (.loc _) v := h
      obtain ⟨a, rfl, _, h2⟩ := loc_ct ok h q
      exact lst rfl ⟨a, rfl, h2⟩
    · cases e
  · cases e; exact lst rfl h
  · cases e; exact lst rfl h
  · cases e
    rename_i m
    have h : RW K w (.scr m) v := h
    cases h with
    | scr h1 => exact ⟨_, _, rfl, RAs.ints, (fun q => (by cases q)), (fun _ => h1.sq)⟩
  · cases e
theorem seq_none {K : PySem.W.Frag} {w : Wd} {x : R} {v : V} (h : RC K w x v) : True := True.intro
theorem sub_ok {K : PySem.W.Frag} {w : Wd} {x y r : R} {v u : V} {Q : VK} (ok : WOK K w) (e : subR w.st x y = some r) (rx : RC K w x v) (ry : RC K w y u) (h : Ans K w r Q) : rIx K v u w.H Q := by
  unfold subR at e
  split at e
  · have := ry.int; subst this
    split at e
    · rename_i l q
      obtain ⟨a, q1, q2⟩ := Option.map_eq_some_iff.mp e
      subst q2
      obtain ⟨p, vs, rfl, h1, h2, h3⟩ := seq_ok ok q rx
      obtain ⟨z, h4, h5⟩ := h1.at q1
      cases t : isTup x with
      | true => exact .inr (.inl ⟨p, vs, _, z, rfl, rfl, h2 t, h4, h.val ok h5⟩)
      | false => exact .inl ⟨p, vs, _, z, rfl, rfl, h3 t, h4, h.val ok h5⟩
    · split at e
      · split at e
        · rename_i z c
          obtain ⟨a, q1, q2⟩ := Option.map_eq_some_iff.mp e
          subst q2
          have := rx.str; subst this
          exact .inr (.inr ⟨_, _, a, rfl, rfl, of_decide_eq_true c, q1, h.val ok (.str _)⟩)
        · cases e
      · cases e
  · cases e
theorem good_sub {a b : E F} (ha : GoodE G C cs N k a) (hb : GoodE G C cs N k b) : GoodE G C cs N k (.sub a b) := by
  intro sc ast X XW fnB h xo hsc
  cases ast with
  | Subscript x y p =>
    have h : (okE G.nm cs N sc a x && okE G.nm cs N sc b y) = true := h
    obtain ⟨h1, h2⟩ := and_t h
    refine PE.weak (pe_ix ix_seq (ha sc x X XW fnB h1 xo hsc) (hb sc y X XW fnB h2 xo hsc) (okE_ix h2)) fun σ H Q q => ?_
    obtain ⟨w, w0, env, rfl, ok, en, q⟩ := q
    exact two_of (g := fun s x y => subR s (fz x) (fz y)) (Q' := fun v u H2 => rIx X.K v u H2 Q) ok en q fun x y v u w' r ok1 rx ry hr h => sub_ok ok1 hr rx ry h
  | _ => cases (show false = true from h)
/-- a slice's part -/
def tEvo (G : Glo F) (C : Cf F) (K : PySem.W.Frag) (XW : XK) (e : OE F) : TO := fun σ H Q => ∃ w w0 env, w.H = H ∧ WOK K w ∧ REnv K w0 w env σ ∧ Sat K w (evo C env e w.st) (fun r w' => Q r w'.H) (xq G XW)
def GoodO (G : Glo F) (C : Cf F) (cs : Cn) (N : List Str) (k : Nat) (e : OE F) : Prop := ∀ (sc : Scope) (o : Option Expr) (X : Cx) (XW : XK) (fnB : Bool), okO G.nm cs N sc e o = true → XOk G C cs N k X XW fnB → X.env.scope = sc → PO X o (tEvo G C X.K XW e)
theorem PO.weak {X : Cx} {e : Option Expr} {t t' : TO} (h : PO X e t) (k : ∀ σ H Q, t' σ H Q → t σ H Q) : PO X e t' := ⟨fun pins s σ H Q I q => h.run pins s σ H Q I (k σ H Q q)⟩
theorem good_onone : GoodO G C cs N k .none := by
  intro sc o X XW fnB h xo hsc
  cases o with
  | some x => cases (show false = true from h)
  | none =>
    refine PO.weak po_none fun σ H Q q => ?_
    obtain ⟨w, w0, env, rfl, ok, en, q⟩ := q
    exact q.here rfl ok
theorem good_osome {e : E F} (he : GoodE G C cs N k e) : GoodO G C cs N k (.some e) := by
  intro sc o X XW fnB h xo hsc
  cases o with
  | none => cases (show false = true from h)
  | some x =>
    refine PO.weak (po_some (he sc x X XW fnB h xo hsc)) fun σ H Q q => ?_
    obtain ⟨w, w0, env, rfl, ok, en, q⟩ := q
    refine ⟨w, w0, env, rfl, ok, en, q.bind.imp fun r w1 ⟨e1, ok1, h1⟩ v rv => ?_⟩
    split at h1
    · rename_i j _
      have rv : RW X.K w1 (.int j) v := rv
      cases rv
      exact ⟨j, rfl, h1.here rfl ok1⟩
    · exact (h1 : False).elim
def rSlc (K : PySem.W.Frag) : V → Option Int → Option Int → Hp → VK → Prop := fun x lo hi H Q => rSlA K x lo hi H Q ∨ rSlS x lo hi H Q ∨ rSlL K x lo hi H Q
theorem cutA_all {A : Type} {l : List A} {lo hi : Option Int} (h : HT.sIx l.length 0 lo = 0 ∧ HT.sIx l.length l.length hi = l.length) : cutA l lo hi = l := by
  unfold cutA
  rw [h.1, h.2]
  simp
theorem slc_ok {K : PySem.W.Frag} {w : Wd} {x r : R} {v : V} {l u : Option Int} {Q : VK} (ok : WOK K w) (e : slcR w.st x l u = some r) (rx : RC K w x v) (h : Ans K w r Q) : rSlc K v l u w.H Q := by
  unfold slcR at e
  split at e
  · cases e
    obtain ⟨a, vs, rfl, h1, h2⟩ := rx.tup
    refine .inl ⟨a, vs, rfl, h1, fun z => ?_, fun z p hp => ?_⟩
    · rw [← h2.length] at z
      rw [cutA_all z] at h
      exact h.val ok (.tup h1 h2)
    · exact h.tup ok (h2.cut l u) hp
  · split at e
    · cases e
      have := rx.str; subst this
      rename_i c
      exact .inr (.inl ⟨_, rfl, of_decide_eq_true c, h.val ok (.str _)⟩)
    · cases e
  · rename_i n1 n2
    split at e
    · rename_i xs q
      cases e
      obtain ⟨a, vs, rfl, h1, h2, h3⟩ := seq_ok ok q rx
      have t : isTup x = false := by
        cases x with
        | v a =>
          cases a with
          | tup m => exact (n1 m rfl).elim
          | _ => rfl
        | _ => rfl
      exact .inr (.inr ⟨a, vs, rfl, h3 t, fun p hp => h.lst ok (h1.cut l u) hp⟩)
    · cases e
theorem good_slc {a : E F} {lo hi : OE F} (ha : GoodE G C cs N k a) (hl : GoodO G C cs N k lo) (hu : GoodO G C cs N k hi) : GoodE G C cs N k (.slc a lo hi) := by
  intro sc ast X XW fnB h xo hsc
  cases ast with
  | Subscript x y p =>
    cases y with
    | Slice l u st p2 =>
      cases st with
      | some z => cases (show false = true from h)
      | none =>
        replace h : (okE G.nm cs N sc a x && okO G.nm cs N sc lo l && okO G.nm cs N sc hi u) = true := h
        obtain ⟨h, h3⟩ := and_t h
        obtain ⟨h1, h2⟩ := and_t h
        refine PE.weak (pe_slice (r := rSlc X.K) (sl_tupA.or (sl_str.or sl_list)) (ha sc x X XW fnB h1 xo hsc) (hl sc l X XW fnB h2 xo hsc) (hu sc u X XW fnB h3 xo hsc)) fun σ H Q q => ?_
        obtain ⟨w, w0, env, rfl, ok, en, q⟩ := q
        refine ⟨w, w0, env, rfl, ok, en, q.bind.imp fun x w1 ⟨e1, ok1, h1⟩ v rx => ?_⟩
        refine ⟨w1, w0, env, rfl, ok1, en.ext ok e1, h1.bind.imp fun lr w2 ⟨e2, ok2, h2⟩ => ?_⟩
        refine ⟨w2, w0, env, rfl, ok2, (en.ext ok e1).ext ok1 e2, h2.bind.imp fun hr w3 ⟨e3, ok3, h3⟩ => ?_⟩
        obtain ⟨r, hr2, h4⟩ := ans_of ((e1.trans e2).trans e3) h3
        exact slc_ok ok3 hr2 (rx.rcx e1 ok1 (e2.trans e3)) h4
    | _ => cases (show false = true from h)
  | _ => cases (show false = true from h)
/-! ### argument lists, displays -/
theorem pimp {α β : Type} {P P' : α → β → Prop} : ∀ {l : List α} {m : List β}, Paired P l m → (∀ a b, P a b → P' a b) → Paired P' l m
  | _, _, .nil, _ => .nil
  | _, _, .cons r t, f => .cons (f _ _ r) (pimp t f)
def GoodEs (G : Glo F) (C : Cf F) (cs : Cn) (N : List Str) (k : Nat) (es : Es F) : Prop := ∀ (sc : Scope) (xs : List Expr) (X : Cx) (XW : XK) (fnB : Bool), okEs G.nm cs N sc es xs = true → XOk G C cs N k X XW fnB → X.env.scope = sc → PA X xs (tEvs G C X.K XW es)
theorem good_esnil : GoodEs G C cs N k .nil := by
  intro sc xs X XW fnB h xo hsc
  match xs, h with
  | [], h =>
    refine PA.weak pa_nil fun σ H Q q => ?_
    obtain ⟨w, w0, env, rfl, ok, en, q⟩ := q
    exact (q.here rfl ok) [] .nil
  | x :: xs, h => cases (show false = true from h)
theorem good_escons {e : E F} {es : Es F} (he : GoodE G C cs N k e) (hs : GoodEs G C cs N k es) : GoodEs G C cs N k (.cons e es) := by
  intro sc xs X XW fnB h xo hsc
  match xs, h with
  | [], h => cases (show false = true from h)
  | x :: xs, h =>
    replace h : (okE G.nm cs N sc e x && okEs G.nm cs N sc es xs) = true := h
    obtain ⟨h1, h2⟩ := and_t h
    refine PA.weak (pa_cons (he sc x X XW fnB h1 xo hsc) (hs sc xs X XW fnB h2 xo hsc) (okE_star h1 xs X.env)) fun σ H Q q => ?_
    obtain ⟨w, w0, env, rfl, ok, en, q⟩ := q
    refine ⟨w, w0, env, rfl, ok, en, q.bindF.imp fun r w1 ⟨e1, ok1, h1⟩ v rv => ?_⟩
    obtain ⟨w2, eH, eS, e2, ok2, rv2⟩ := freeze e1 ok1 rv ok.dom
    have h3 := h1 w2 e2 eS
    rw [← eH]
    refine ⟨w2, w0, env, rfl, ok2, en.ext ok e2, h3.bind.imp fun rs w3 ⟨e3, ok3, h4⟩ vs rr => ?_⟩
    exact (h4.here rfl ok3) (v :: vs) (.cons (rv2.ext e2 ok2 e3) (pimp rr fun a b z => z.back e2))
theorem toA_ok {K : PySem.W.Frag} {w w1 : Wd} {r : R} {v : V} {a : AV} (h : RR K w w1 r v) (e : toA r = some a) : RW K w1 a v := by
  cases r with
  | v b => cases e; exact h
  | tl l => cases e
  | bo l => cases e
theorem toAs_ok {K : PySem.W.Frag} {w w1 : Wd} : ∀ {rs : List R} {vs : List V} {l : List AV}, Paired (RR K w w1) rs vs → toAs rs = some l → RWs K w1 l vs
  | _, _, l, .nil, e => by
    cases (show some [] = some l from e)
    exact .nil
  | _, _, l, .cons (a := r) (l₁ := rs) h t, e => by
    have e : (match toA r, toAs rs with
      | some a, some as => some (a :: as)
      | _, _ => none) = some l := e
    cases q1 : toA r with
    | none => rw [q1] at e; cases e
    | some a =>
      cases q2 : toAs rs with
      | none => rw [q1, q2] at e; cases e
      | some as =>
        rw [q1, q2] at e
        cases e
        exact .cons (toA_ok h q1) (toAs_ok t q2)
theorem good_tup {es : Es F} (hs : GoodEs G C cs N k es) : GoodE G C cs N k (.tup es) := by
  intro sc ast X XW fnB h xo hsc
  cases ast with
  | Tuple xs j p =>
    refine PE.weak (pe_tup (hs sc xs X XW fnB h xo hsc)) fun σ H Q q => ?_
    obtain ⟨w, w0, env, rfl, ok, en, q⟩ := q
    refine ⟨w, w0, env, rfl, ok, en, q.bind.imp fun rs w1 ⟨e1, ok1, h1⟩ vs rr => ?_⟩
    obtain ⟨r, hr, h2⟩ := ans_of e1 h1
    obtain ⟨l, q1, q2⟩ := Option.bind_eq_some_iff.mp hr
    split at q2
    · rename_i c
      cases q2
      have rl := toAs_ok rr q1
      exact ⟨by rw [← rl.length]; exact c, fun p hp => h2.tup ok1 rl hp⟩
    · cases q2
  | _ => cases (show false = true from h)
theorem good_lst {es : Es F} (hs : GoodEs G C cs N k es) : GoodE G C cs N k (.lst es) := by
  intro sc ast X XW fnB h xo hsc
  cases ast with
  | List xs p =>
    refine PE.weak (pe_lst (hs sc xs X XW fnB h xo hsc)) fun σ H Q q => ?_
    obtain ⟨w, w0, env, rfl, ok, en, q⟩ := q
    refine ⟨w, w0, env, rfl, ok, en, q.bind.imp fun rs w1 ⟨e1, ok1, h1⟩ vs rr => ?_⟩
    obtain ⟨r, hr, h2⟩ := ans_of e1 h1
    obtain ⟨l, q1, q2⟩ := Option.bind_eq_some_iff.mp hr
    split at q2
    · rename_i c
      cases q2
      have rl := toAs_ok rr q1
      exact ⟨by rw [← rl.length]; exact c, fun p hp => h2.lst ok1 rl hp⟩
    · cases q2
  | _ => cases (show false = true from h)
/-! ### calls -/
theorem gloB_ok {X : Cx} {x : Str} (h : gloB X.env.scope x = true) : Gl X x ∧ (x == ("__debug__" : Str)) = false ∧ x ≠ ("__name__" : Str) := by
  unfold gloB at h
  obtain ⟨h, h3⟩ := and_t h
  obtain ⟨h1, h2⟩ := and_t h
  exact ⟨(of_decide_eq_true h1 : X.env.scope.names.lookup x = some .globalImplicit), not_f h2, fun z => by subst z; cases (not_f h3)⟩
theorem backTo_any {F : Type} {nm : F → Option Str} {cs : Cn} {N : List Str} {sc : Scope} : ∀ {es : Es F} {xs : List Expr} {env : PySem.Env} {pos : Pos}, okEs nm cs N sc es xs = true → (backTo pos (starEach xs env)).any (·.1) = false
  | .nil, [], _, _, _ => rfl
  | .nil, _ :: _, _, _, h => by cases (show false = true from h)
  | .cons _ _, [], _, _, h => by cases (show false = true from h)
  | .cons e es, x :: xs, env, pos, h => by
    obtain ⟨h1, h2⟩ := and_t (show (okE nm cs N sc e x && okEs nm cs N sc es xs) = true from h)
    rw [okE_star h1]
    have ih := backTo_any (es := es) (xs := xs) (env := env) (pos := pos) h2
    simpa [backTo] using ih
theorem good_call (f : F) {es : Es F} (hs : GoodEs G C cs N k es) : GoodE G C cs N k (.call f es) := by
  intro sc ast X XW fnB h xo hsc
  cases ast with
  | Call fn xs kws p =>
    cases fn with
    | Name g p2 =>
      match xs, kws, h with
      | x :: xs, [], h =>
        replace h : (decide (G.nm f = some g) && gloB sc g && okEs G.nm cs N sc es (x :: xs)) = true := h
        obtain ⟨h, h3⟩ := and_t h
        obtain ⟨h1, h2⟩ := and_t h
        have hg0 := of_decide_eq_true h1
        subst hsc
        obtain ⟨g1, g2, g3⟩ := gloB_ok h2
        have hst : starEach (x :: xs) X.env = (false, eval x X.env) :: starEach xs X.env := by
          cases es with
          | nil => cases (show false = true from h3)
          | cons e es => exact okE_star (and_t (show (okE G.nm cs N X.env.scope e x && okEs G.nm cs N X.env.scope es xs) = true from h3)).1 xs X.env
        have hpl : (backTo p (starEach xs X.env)).any (·.1) = false := by
          cases es with
          | nil => cases (show false = true from h3)
          | cons e es => exact backTo_any (and_t (show (okE G.nm cs N X.env.scope e x && okEs G.nm cs N X.env.scope es xs) = true from h3)).2
        refine PE.weak (pe_call (dvs := []) (ds := []) (E := XW) (xo.fns f g hg0) xo.room g1 (xo.mgf f g hg0) (xo.kp f g hg0) (xo.bd f g hg0) .nil (passes_call xo.tk fun _ _ _ _ z => z) (hs _ (x :: xs) X XW fnB h3 xo rfl) g2 hst hpl) fun σ H Q q => ?_
        obtain ⟨w, w0, env, rfl, ok, en, q⟩ := q
        refine ⟨w, w0, env, rfl, ok, en, q.bind.imp fun rs w1 ⟨e1, ok1, h1⟩ vs rr => ?_⟩
        cases q1 : toAs rs with
        | none => rw [q1] at h1; exact (h1 : False).elim
        | some l =>
          rw [q1] at h1
          have rl := toAs_ok rr q1
          have h2 : Sat X.K w1 (C f l w1.st) (fun r w' => ∀ v, RR X.K w w' r v → Q v w'.H) (xq G XW) := h1
          rw [List.append_nil]
          refine ⟨?_, w1, l, rfl, ok1, rl, h2.imp fun r w2 q v rv => q v (rv.back e1)⟩
          rw [← rl.length]
          refine xo.len f g l w1.st hg0 fun z => ?_
          rw [z] at h2
          exact h2
      | [], _, h => cases (show false = true from h)
      | _ :: _, _ :: _, h => cases (show false = true from h)
    | _ => cases (show false = true from h)
  | _ => cases (show false = true from h)
/-! ### built-ins -/
theorem boot_isi : bootBuiltins "isinstance" = some (.builtin "isinstance") := PyProof.Rows.boot_isinstance
theorem ty_boot : ∀ t : Ty, bootBuiltins (Str.ofString (tyName t)) = some (.type (tyName t))
  | .int => PyProof.Rows.boot_int
  | .bool => PyProof.Rows.boot_bool
  | .str => PyProof.Rows.boot_str
  | .tuple => PyProof.Rows.boot_tuple
  | .list => PyProof.Rows.boot_list
theorem ty_in : ∀ t : Ty, Str.ofString (tyName t) ∈ bNames
  | .int => by decide +kernel
  | .bool => by decide +kernel
  | .str => by decide +kernel
  | .tuple => by decide +kernel
  | .list => by decide +kernel
theorem ty_pe {X : Cx} {t : Ty} {y : Expr} (xo : XOk G C cs N k X XW fnB) (h : isTyName X.env.scope t y = true) : PE X y (tC (.ty (tyName t))) := by
  cases y with
  | Name x p =>
    replace h : (decide (x = Str.ofString (tyName t)) && gloB X.env.scope x) = true := h
    obtain ⟨h1, h2⟩ := and_t h
    have h1 := of_decide_eq_true h1
    obtain ⟨g1, g2, g3⟩ := gloB_ok h2
    subst h1
    exact pe_bltn (v := .ty (tyName t)) g1 (xo.blt _ (ty_in t)) (ty_boot t) rfl g3 g2
  | _ => cases (show false = true from h)
theorem ty_star {sc : Scope} {t : Ty} {y : Expr} (h : isTyName sc t y = true) (es : List Expr) (env : PySem.Env) : starEach (y :: es) env = (false, eval y env) :: starEach es env := by
  cases y with
  | Name x p => rfl
  | _ => cases (show false = true from h)
def kdName : Kd → String
  | .non => "NoneType" | .bool => "bool" | .int => "int" | .str => "str" | .tuple => "tuple" | .list => "list"
theorem kd_ok (d : Kd) (t : Ty) : kitB (kdName d) (tyName t) = some (kdOk d t) := by cases d <;> cases t <;> decide +kernel
theorem tyX_ok {K : PySem.W.Frag} {w : Wd} {x : R} {v : V} {d : Kd} (ok : WOK K w) (h : RC K w x v) (kn : kdOf w.st x = some d) : TyX K w.H v (.type (kdName d)) := by
  have lst : ∀ c : Ct, c.kd = some d → (∃ a, v = .ref a ∧ RCt K w a c) → TyX K w.H v (.type (kdName d)) := fun c e h => by
    obtain ⟨a, rfl, vs, h1, _⟩ := h
    cases c with
    | lst l =>
      cases e
      exact .base (.lst h1)
    | _ => cases e
  cases x with
  | tl m => exact lst m kn h
  | bo m => exact lst m kn h
  | v a =>
    rcases h.rw with ⟨c, p, rfl, rfl, h'⟩ | h
    · exact lst c (by cases c <;> exact kn) ⟨p, rfl, h'⟩
    · cases h with
      | non => cases kn; exact .base .non
      | bl b => cases kn; exact .base (.bl b)
      | int b => cases kn; exact .base (.int b)
      | str b => cases kn; exact .base (.str b)
      | tup h1 _ =>
        cases kn
        rcases h1 with (h1 | ⟨o, h1⟩) | ⟨o, its, n, h1, h3, _⟩
        · exact .base (.tup h1)
        · exact .fTuple h1
        · exact .kTuple h1 h3
      | scr h1 =>
        cases kn
        rcases h1 with ⟨o, h1⟩ | ⟨o, its, n, h1, h3, _⟩
        · exact .base (.frz h1)
        · exact .kList h1 h3
      | lst h1 _ _ => cases kn; exact .base (.lst h1)
      | dic => cases kn
      | dit => cases kn
      | loc h1 =>
        rename_i n
        have kn : (match w.st.ob[n]? with
          | some (.ct c) => c.kd
          | _ => none) = some d := kn
        split at kn
        · rename_i c q
          exact lst c kn ⟨_, rfl, ok.obj n _ _ q h1⟩
        · cases kn
theorem kd_fz {s : Sto} {r : R} : kdOf s (fz r) = kdOf s r := by
  cases r with
  | tl c => cases c <;> rfl
  | _ => rfl
theorem good_isi {a : E F} (t : Ty) (ha : GoodE G C cs N k a) : GoodE G C cs N k (.isi a t) := by
  intro sc ast X XW fnB h xo hsc
  cases ast with
  | Call fn xs kws p =>
    cases fn with
    | Name g p2 =>
      match xs, kws, h with
      | [x, y], [], h =>
        replace h : (decide (g = ("isinstance" : Str)) && gloB sc g && okE G.nm cs N sc a x && isTyName sc t y) = true := h
        obtain ⟨h, h4⟩ := and_t h
        obtain ⟨h, h3⟩ := and_t h
        obtain ⟨h1, h2⟩ := and_t h
        have h1 := of_decide_eq_true h1
        subst hsc
        obtain ⟨g1, g2, g3⟩ := gloB_ok h2
        subst h1
        refine PE.weak (pe_callB call_isi g1 (xo.blt _ (by decide +kernel)) boot_isi (pa_cons (ha _ x X XW fnB h3 xo rfl) (pa_cons (ty_pe xo h4) pa_nil (ty_star h4 [] X.env)) (okE_star h3 [y] X.env)) g3 g2 (okE_star h3 [y] X.env) (by rw [ty_star h4]; rfl)) fun σ H Q q => ?_
        obtain ⟨w, w0, env, rfl, ok, en, q⟩ := q
        refine ⟨w, w0, env, rfl, ok, en, q.bind.imp fun r w1 ⟨e1, ok1, h1⟩ v rv => ?_⟩
        obtain ⟨r2, hr, h2⟩ := ans_of e1 h1
        obtain ⟨d, kn, e2⟩ := Option.map_eq_some_iff.mp hr
        subst e2
        rw [← kd_fz] at kn
        exact ⟨v, .ty (tyName t), _, _, _, rfl, .ty _, tyX_ok ok1 rv.rc kn, kit_ty (kd_ok d t), h2.val ok1 (.bl _)⟩
      | [], _, h => cases (show false = true from h)
      | [_], _, h => cases (show false = true from h)
      | _ :: _ :: _ :: _, _, h => cases (show false = true from h)
      | [_, _], _ :: _, h => cases (show false = true from h)
    | _ => cases (show false = true from h)
  | _ => cases (show false = true from h)
end
end EV

set_option maxRecDepth 100000
set_option maxHeartbeats 2000000
namespace EV
open PySem PySem.Spec PyProof.Rows L2
section
variable {F : Type} {G : Glo F} {C : Cf F} {cs : Cn} {N : List Str} {k : Nat}
/-- written names of types -/
theorem tys_pa {X : Cx} {XW : XK} {fnB : Bool} (xo : XOk G C cs N k X XW fnB) : ∀ (ts : List Ty) (ys : List Expr), tyNames X.env.scope ts ys = true → PA X ys (fun σ H Q => Q (ts.map fun t => .ty (tyName t)) H)
  | [], [], _ => PA.weak pa_nil fun _ _ _ q => q
  | [], _ :: _, h => by cases (show false = true from h)
  | _ :: _, [], h => by cases (show false = true from h)
  | t :: ts, y :: ys, h => by
    obtain ⟨h1, h2⟩ := and_t (show (isTyName X.env.scope t y && tyNames X.env.scope ts ys) = true from h)
    exact PA.weak (pa_cons (ty_pe xo h1) (tys_pa xo ts ys h2) (ty_star h1 ys X.env)) fun _ _ _ q => q
theorem kitAny_ok {K : PySem.W.Frag} (d : Kd) : ∀ ts : List Ty, PySem.W.kitAny K (.type (kdName d)) (ts.map fun t => .type (tyName t)) = some (ts.any fun t => kdOk d t)
  | [] => rfl
  | t :: ts => by
    refine kitAny_cons (b := kdOk d t) (kit_ty (kd_ok d t)) (fun h => ?_) (fun h => ?_)
    · rw [kitAny_ok d ts, List.any_cons, h, Bool.false_or]
    · rw [List.any_cons, h, Bool.true_or]
theorem paired_cls : ∀ ts : List Ty, Paired ClsV (ts.map fun t => .ty (tyName t)) (ts.map fun t => .type (tyName t))
  | [] => .nil
  | t :: ts => .cons (.ty _) (paired_cls ts)
theorem good_isis {a : E F} (ts : List Ty) (ha : GoodE G C cs N k a) : GoodE G C cs N k (.isis a ts) := by
  intro sc ast X XW fnB h xo hsc
  cases ast with
  | Call fn xs kws p =>
    cases fn with
    | Name g p2 =>
      match xs, kws, h with
      | [x, y], [], h =>
        cases y with
        | Tuple ys kk tp =>
          replace h : (decide (ts.length ≤ sizeLine) && decide (g = ("isinstance" : Str)) && gloB sc g && okE G.nm cs N sc a x && tyNames sc ts ys) = true := h
          obtain ⟨h, h4⟩ := and_t h
          obtain ⟨h, h3⟩ := and_t h
          obtain ⟨h, h2⟩ := and_t h
          obtain ⟨hz, h1⟩ := and_t h
          have hz := of_decide_eq_true hz
          have h1 := of_decide_eq_true h1
          subst hsc
          obtain ⟨g1, g2, g3⟩ := gloB_ok h2
          subst h1
          refine PE.weak (pe_callB call_isiT g1 (xo.blt _ (by decide +kernel)) boot_isi (pa_cons (ha _ x X XW fnB h3 xo rfl) (pa_cons (pe_tup (tys_pa xo ts ys h4)) pa_nil (by rfl)) (okE_star h3 _ X.env)) g3 g2 (okE_star h3 _ X.env) (by rfl)) fun σ H Q q => ?_
          obtain ⟨w, w0, env, rfl, ok, en, q⟩ := q
          refine ⟨w, w0, env, rfl, ok, en, q.bind.imp fun r w1 ⟨e1, ok1, h1⟩ v rv => ?_⟩
          obtain ⟨r2, hr, h2⟩ := ans_of e1 h1
          obtain ⟨d, kn, e2⟩ := Option.map_eq_some_iff.mp hr
          subst e2
          rw [← kd_fz] at kn
          refine ⟨by rw [List.length_map]; exact hz, fun T hT => ?_⟩
          have eT := Ext.laid (w := w1) (o := .tup (ts.map fun t => .ty (tyName t))) hT
          have okT := ok1.laid (o := .tup (ts.map fun t => .ty (tyName t))) hT
          have kn' : kdOf (Wd.mk w1.ro w1.fb w1.st (upd w1.H T (.tup (ts.map fun t => .ty (tyName t))))).st (fz r) = some d := kn
          have rcT := (rv.ext e1 ok1 eT).rc
          exact ⟨v, T, _, _, _, _, rfl, upd_same, paired_cls ts, tyX_ok okT rcT kn', kitAny_ok d ts, h2 ⟨w1.ro, w1.fb, w1.st, upd w1.H T (.tup (ts.map fun t => .ty (tyName t)))⟩ rfl eT okT _ (.bl _)⟩
        | _ => cases (show false = true from h)
      | [], _, h => cases (show false = true from h)
      | [_], _, h => cases (show false = true from h)
      | _ :: y :: _ :: _, _, h => cases y <;> cases (show false = true from h)
      | [_, y], _ :: _, h => cases y <;> cases (show false = true from h)
    | _ => cases (show false = true from h)
  | _ => cases (show false = true from h)
/-! ### built-in functions -/
def rBi (K : PySem.W.Frag) : Bi → List V → Hp → VK → Prop
  | .len => fun xs H Q => ∃ x n, xs = [x] ∧ LenV K x H n ∧ Q (.int (n : Nat)) H
  | .sum => rSum K
  | .min => fun xs H Q => ∃ i j, xs = [.int i, .int j] ∧ Q (.int (if j < i then j else i)) H
  | .max => fun xs H Q => ∃ i j, xs = [.int i, .int j] ∧ Q (.int (if j > i then j else i)) H
  | .tuple => fun xs H Q => ∃ p ys, xs = [.ref p] ∧ ((SqL K H p ys ∧ ∀ l, H l = none → Q (.ref l) (upd H l (.tup ys))) ∨ (SqT K H p ys ∧ Q (.ref p) H))
  | .list => fun xs H Q => ∃ p ys, xs = [.ref p] ∧ (SqL K H p ys ∨ SqT K H p ys) ∧ ∀ l, H l = none → Q (.ref l) (upd H l (.lst ys))
theorem bi_pe {X : Cx} {XW : XK} {fnB : Bool} (xo : XOk G C cs N k X XW fnB) : ∀ (f : Bi) {e : Expr} {es : List Expr} {t : TA} {p pos : Pos}, Gl X (biName f) → PA X (e :: es) t → (biName f == ("__debug__" : Str)) = false → biName f ≠ "__name__" → starEach (e :: es) X.env = (false, eval e X.env) :: starEach es X.env → (backTo pos (starEach es X.env)).any (·.1) = false →
    PE X (.Call (.Name (biName f) p) (e :: es) [] pos) (tCB (rBi X.K f) t)
  | .len, _, _, _, _, _, g, ha, h1, h2, h3, h4 => pe_callB call_len g (xo.blt _ (by decide +kernel)) boot_len ha h2 h1 h3 h4
  | .sum, _, _, _, _, _, g, ha, h1, h2, h3, h4 => pe_callB (cr_sum xo.hc) g (xo.blt _ (by decide +kernel)) boot_sum ha h2 h1 h3 h4
  | .min, _, _, _, _, _, g, ha, h1, h2, h3, h4 => pe_callB (call_min2 xo.hc) g (xo.blt _ (by decide +kernel)) boot_min ha h2 h1 h3 h4
  | .max, _, _, _, _, _, g, ha, h1, h2, h3, h4 => pe_callB (call_max2 xo.hc) g (xo.blt _ (by decide +kernel)) boot_max ha h2 h1 h3 h4
  | .tuple, _, _, _, _, _, g, ha, h1, h2, h3, h4 => pe_callTy call_tuple_of g (xo.blt _ (by decide +kernel)) PyProof.Rows.boot_tuple ha h2 h1 h3 h4
  | .list, _, _, _, _, _, g, ha, h1, h2, h3, h4 => pe_callTy call_list_of g (xo.blt _ (by decide +kernel)) PyProof.Rows.boot_list ha h2 h1 h3 h4
/-- what arguments hold -/
theorem pair1 {α β : Type} {P : α → β → Prop} {x : α} {vs : List β} (h : Paired P [x] vs) : ∃ v, vs = [v] ∧ P x v := by
  cases h with
  | cons r t => cases t; exact ⟨_, rfl, r⟩
theorem pair2 {α β : Type} {P : α → β → Prop} {x y : α} {vs : List β} (h : Paired P [x, y] vs) : ∃ v u, vs = [v, u] ∧ P x v ∧ P y u := by
  cases h with
  | cons r t =>
    obtain ⟨u, rfl, q⟩ := pair1 t
    exact ⟨_, _, rfl, r, q⟩
theorem bi_ok {K : PySem.W.Frag} {w : Wd} {f : Bi} {rs : List R} {r : R} {vs : List V} {Q : VK} (ok : WOK K w) (e : biR w.st f rs = some r) (rr : Paired (RC K w) rs vs) (h : Ans K w r Q) : rBi K f vs w.H Q := by
  unfold biR at e
  split at e
  · obtain ⟨v, rfl, rx⟩ := pair1 rr
    split at e
    · rename_i l q
      cases e
      obtain ⟨a, ys, rfl, h1, h2, h3⟩ := seq_ok ok q rx
      refine ⟨_, l.length, rfl, ?_, h.val ok (.int _)⟩
      cases t : isTup _ with
      | true => exact .inr ⟨ys, h2 t, h1.length⟩
      | false => exact .inl ⟨ys, h3 t, h1.length⟩
    · split at e
      · split at e
        · rename_i c
          cases e
          have := rx.str; subst this
          exact ⟨_, _, rfl, ⟨of_decide_eq_true c, rfl⟩, h.val ok (.int _)⟩
        · cases e
      · cases e
  · obtain ⟨v, rfl, rx⟩ := pair1 rr
    rename_i x
    split at e
    · cases e
    · rename_i t
      have t : isTup x = false := by simpa using t
      split at e
      · rename_i l q
        obtain ⟨ns, q1, q2⟩ := Option.map_eq_some_iff.mp e
        subst q2
        obtain ⟨a, ys, rfl, h1, h2, h3⟩ := seq_ok ok q rx
        have e2 := h1.of_ints q1
        exact ⟨a, ns, rfl, by rw [← e2]; exact h3 t, h.val ok (.int _)⟩
      · cases e
  · cases e
    obtain ⟨v, u, rfl, rx, ry⟩ := pair2 rr
    have := rx.int; have := ry.int; subst_vars
    exact ⟨_, _, rfl, h.val ok (.int _)⟩
  · cases e
    obtain ⟨v, u, rfl, rx, ry⟩ := pair2 rr
    have := rx.int; have := ry.int; subst_vars
    exact ⟨_, _, rfl, h.val ok (.int _)⟩
  · obtain ⟨v, rfl, rx⟩ := pair1 rr
    rename_i x
    split at e
    · rename_i l q
      have e : some (R.v (.tup l)) = some r := by split at e <;> exact e
      cases e
      obtain ⟨a, ys, rfl, h1, h2, h3⟩ := seq_ok ok q rx
      cases t : isTup x with
      | true => exact ⟨a, ys, rfl, .inr ⟨h2 t, h.val ok (.tup (h2 t) h1)⟩⟩
      | false => exact ⟨a, ys, rfl, .inl ⟨h3 t, fun l hl => h.tup ok h1 hl⟩⟩
    · cases e
  · obtain ⟨v, rfl, rx⟩ := pair1 rr
    rename_i x
    split at e
    · rename_i l q
      cases e
      obtain ⟨a, ys, rfl, h1, h2, h3⟩ := seq_ok ok q rx
      refine ⟨a, ys, rfl, ?_, fun l hl => h.lst ok h1 hl⟩
      cases t : isTup x with
      | true => exact .inr (h2 t)
      | false => exact .inl (h3 t)
    · cases e
  · cases e
theorem rc_of_rr {K : PySem.W.Frag} {w w1 : Wd} {r : R} {v : V} (h : RR K w w1 r v) : RC K w1 r v := by
  cases r with
  | v a => exact RW.rc h
  | tl l =>
    obtain ⟨a, rfl, h1, _⟩ := h
    exact ⟨a, rfl, h1⟩
  | bo l =>
    obtain ⟨a, rfl, h1, _⟩ := h
    exact ⟨a, rfl, h1⟩
theorem good_bi (f : Bi) {es : Es F} (hs : GoodEs G C cs N k es) : GoodE G C cs N k (.bi f es) := by
  intro sc ast X XW fnB h xo hsc
  cases ast with
  | Call fn xs kws p =>
    cases fn with
    | Name g p2 =>
      match xs, kws, h with
      | x :: xs, [], h =>
        replace h : (decide (g = biName f) && gloB sc g && okEs G.nm cs N sc es (x :: xs)) = true := h
        obtain ⟨h, h3⟩ := and_t h
        obtain ⟨h1, h2⟩ := and_t h
        have h1 := of_decide_eq_true h1
        subst hsc
        obtain ⟨g1, g2, g3⟩ := gloB_ok h2
        have hst : starEach (x :: xs) X.env = (false, eval x X.env) :: starEach xs X.env := by
          cases es with
          | nil => cases (show false = true from h3)
          | cons e es => exact okE_star (and_t (show (okE G.nm cs N X.env.scope e x && okEs G.nm cs N X.env.scope es xs) = true from h3)).1 xs X.env
        have hpl : (backTo p (starEach xs X.env)).any (·.1) = false := by
          cases es with
          | nil => cases (show false = true from h3)
          | cons e es => exact backTo_any (and_t (show (okE G.nm cs N X.env.scope e x && okEs G.nm cs N X.env.scope es xs) = true from h3)).2
        subst h1
        refine PE.weak (bi_pe xo f g1 (hs _ (x :: xs) X XW fnB h3 xo rfl) g2 g3 hst hpl) fun σ H Q q => ?_
        obtain ⟨w, w0, env, rfl, ok, en, q⟩ := q
        refine ⟨w, w0, env, rfl, ok, en, q.bind.imp fun rs w1 ⟨e1, ok1, h1⟩ vs rr => ?_⟩
        obtain ⟨r, hr, h2⟩ := ans_of e1 h1
        exact bi_ok ok1 hr (pimp rr fun a b z => rc_of_rr z) h2
      | [], _, h => cases (show false = true from h)
      | _ :: _, _ :: _, h => cases (show false = true from h)
    | _ => cases (show false = true from h)
  | _ => cases (show false = true from h)
end
end EV

set_option maxRecDepth 100000
set_option maxHeartbeats 2000000
namespace EV
open PySem PySem.Spec PyProof.Rows L2 RT RZ
/-! ### walks -/
def KV (K : PySem.W.Frag) (w : Wd) (ks : List (AV × V)) : Prop := ∀ p ∈ ks, RW K w p.1 p.2
def WalkA (K : PySem.W.Frag) (ks : List (AV × V)) (l : List AV) (J : L2.It) : Prop := ∃ (Gp : Hp → Prop) (Y : Nat → Hp → V → Hp → Prop), Walk J l.length Gp Y ∧ (∀ w, WOK K w → KV K w ks → Gp w.H) ∧
  ∀ (i : Nat) (x : V) (H' : Hp) (w : Wd), i < l.length → WOK K w → KV K w ks → Y i w.H x H' → ∃ a w', l[i]? = some a ∧ w'.H = H' ∧ w'.st = w.st ∧ Ext w w' ∧ WOK K w' ∧ RW K w' a x
theorem KV.ext {K : PySem.W.Frag} {w w' : Wd} {ks : List (AV × V)} (h : KV K w ks) (ok : WOK K w) (e : Ext w w') : KV K w' ks := fun p hp => RA.ext ok e (h p hp)
section
variable {K : PySem.W.Frag} {l m : List AV}
theorem kv1 {w : Wd} {a : AV} {v : V} : KV K w [(a, v)] ↔ RW K w a v := ⟨fun h => h (a, v) (by simp), fun h p hp => by
  have : p = (a, v) := by simpa using hp
  subst this; exact h⟩
theorem kv2 {w : Wd} {a b : AV} {v u : V} : KV K w [(a, v), (b, u)] ↔ RW K w a v ∧ RW K w b u := ⟨fun h => ⟨h (a, v) (by simp), h (b, u) (by simp)⟩, fun h p hp => by
  rcases List.mem_cons.mp hp with e | hp
  · subst e; exact h.1
  · have : p = (b, u) := by simpa using hp
    subst this; exact h.2⟩
/-- a list or a tuple as a value: its items by the heap -/
theorem seqV_ok {w : Wd} {a : AV} {v : V} (e : seqV a = some l) (h : RW K w a v) : ∃ p vs, v = .ref p ∧ vs.length = l.length ∧ RWs K w l vs ∧ (isTupA a = true → SqT K w.H p vs) ∧ (isTupA a = false → SqL K w.H p vs) := by
  cases a with
  | tup m =>
    cases e
    cases h with
    | tup h1 h2 => exact ⟨_, _, rfl, h2.length.symm, h2, fun _ => h1, fun q => by cases q⟩
  | lst m =>
    cases e
    cases h with
    | lst h1 h2 h3 => exact ⟨_, _, rfl, h3.length.symm, h3, fun q => (by cases q), fun _ => SqL.of h1⟩
  | scr m =>
    cases e
    cases h with
    | scr h1 => exact ⟨_, _, rfl, by simp, RAs.ints, fun q => (by cases q), fun _ => h1.sq⟩
  | _ => cases e
theorem seqL_ok {w : Wd} {a : AV} {p : Addr} (t : isTupA a = false) (e : seqV a = some l) (h : RW K w a (.ref p)) : ∃ vs, SqL K w.H p vs ∧ vs.length = l.length ∧ RWs K w l vs := by
  obtain ⟨q, vs, e1, h1, h2, h3, h4⟩ := seqV_ok e h
  cases e1
  exact ⟨vs, h4 t, h1, h2⟩
theorem seqT_ok {w : Wd} {a : AV} {p : Addr} (t : isTupA a = true) (e : seqV a = some l) (h : RW K w a (.ref p)) : ∃ vs, SqT K w.H p vs ∧ vs.length = l.length ∧ RWs K w l vs := by
  obtain ⟨q, vs, e1, h1, h2, h3, h4⟩ := seqV_ok e h
  cases e1
  exact ⟨vs, h3 t, h1, h2⟩
theorem get_lt {α : Type} {xs : List α} {i : Nat} (h : i < xs.length) : ∃ x, xs[i]? = some x := ⟨xs[i], by simp [h]⟩
theorem walkA_list {a : AV} {p : Addr} (t : isTupA a = false) (e : seqV a = some l) : WalkA K [(a, .ref p)] l (Itl K p) := by
  refine ⟨fun H => ∃ vs, SqL K H p vs ∧ vs.length = l.length, fun i H x H' => H' = H ∧ ∀ xs, SqL K H p xs → xs[i]? = some x, ⟨fun i H hi ⟨vs, q, z⟩ => ?_, fun H ⟨vs, q, z⟩ => ⟨vs, q, Nat.le_of_eq z⟩, fun _ _ _ _ _ _ y => y⟩, fun w ok kv => ?_, fun i x H' w hi ok kv y => ?_⟩
  · obtain ⟨x, hx⟩ := get_lt (xs := vs) (i := i) (by omega)
    exact ⟨vs, x, q, hx⟩
  · obtain ⟨vs, h1, h2, _⟩ := seqL_ok t e (kv1.mp kv)
    exact ⟨vs, h1, h2⟩
  · obtain ⟨vs, h1, h2, h3⟩ := seqL_ok t e (kv1.mp kv)
    obtain ⟨rfl, y⟩ := y
    obtain ⟨b, h4, h5⟩ := h3.getV (y vs h1)
    exact ⟨b, w, h4, rfl, rfl, Ext.refl w, ok, h5⟩
theorem walkA_tup {a : AV} {p : Addr} (t : isTupA a = true) (e : seqV a = some l) : WalkA K [(a, .ref p)] l (Itt K p) := by
  refine ⟨fun H => ∃ vs, SqT K H p vs ∧ vs.length = l.length, fun i H x H' => H' = H ∧ ∀ xs, SqT K H p xs → xs[i]? = some x, ⟨fun i H hi ⟨vs, q, z⟩ => ?_, fun H ⟨vs, q, z⟩ => ⟨vs, q, Nat.le_of_eq z⟩, fun _ _ _ _ _ _ y => y⟩, fun w ok kv => ?_, fun i x H' w hi ok kv y => ?_⟩
  · obtain ⟨x, hx⟩ := get_lt (xs := vs) (i := i) (by omega)
    exact ⟨vs, x, q, hx⟩
  · obtain ⟨vs, h1, h2, _⟩ := seqT_ok t e (kv1.mp kv)
    exact ⟨vs, h1, h2⟩
  · obtain ⟨vs, h1, h2, h3⟩ := seqT_ok t e (kv1.mp kv)
    obtain ⟨rfl, y⟩ := y
    obtain ⟨b, h4, h5⟩ := h3.getV (y vs h1)
    exact ⟨b, w, h4, rfl, rfl, Ext.refl w, ok, h5⟩
theorem rev_at {α : Type} {l : List α} {i : Nat} (h : i < l.length) : l.reverse[i]? = l[l.length - 1 - i]? := by
  rw [List.getElem?_reverse h]
theorem walkA_revL {a : AV} {p : Addr} (t : isTupA a = false) (e : seqV a = some l) : WalkA K [(a, .ref p)] l.reverse (Itv K p l.length) := by
  refine ⟨fun H => ∃ vs, SqL K H p vs ∧ vs.length = l.length, fun i H x H' => H' = H ∧ ∀ xs, SqL K H p xs → xs[l.length - 1 - i]? = some x, ⟨fun i H hi ⟨vs, q, z⟩ => ?_, fun H _ => by show l.length ≤ l.reverse.length; simp, fun _ _ _ _ _ _ y => y⟩, fun w ok kv => ?_, fun i x H' w hi ok kv y => ?_⟩
  · rw [List.length_reverse] at hi
    obtain ⟨x, hx⟩ := get_lt (xs := vs) (i := l.length - 1 - i) (by omega)
    exact ⟨hi, vs, x, q, hx⟩
  · obtain ⟨vs, h1, h2, _⟩ := seqL_ok t e (kv1.mp kv)
    exact ⟨vs, h1, h2⟩
  · rw [List.length_reverse] at hi
    obtain ⟨vs, h1, h2, h3⟩ := seqL_ok t e (kv1.mp kv)
    obtain ⟨rfl, y⟩ := y
    obtain ⟨b, h4, h5⟩ := h3.getV (y vs h1)
    exact ⟨b, w, by rw [rev_at hi]; exact h4, rfl, rfl, Ext.refl w, ok, h5⟩
theorem walkA_revT {a : AV} {p : Addr} (t : isTupA a = true) (e : seqV a = some l) : WalkA K [(a, .ref p)] l.reverse (ItvT K p l.length) := by
  refine ⟨fun H => ∃ vs, SqT K H p vs ∧ vs.length = l.length, fun i H x H' => H' = H ∧ ∀ xs, SqT K H p xs → xs[l.length - 1 - i]? = some x, ⟨fun i H hi ⟨vs, q, z⟩ => ?_, fun H _ => by show l.length ≤ l.reverse.length; simp, fun _ _ _ _ _ _ y => y⟩, fun w ok kv => ?_, fun i x H' w hi ok kv y => ?_⟩
  · rw [List.length_reverse] at hi
    obtain ⟨x, hx⟩ := get_lt (xs := vs) (i := l.length - 1 - i) (by omega)
    exact ⟨hi, vs, x, q, hx⟩
  · obtain ⟨vs, h1, h2, _⟩ := seqT_ok t e (kv1.mp kv)
    exact ⟨vs, h1, h2⟩
  · rw [List.length_reverse] at hi
    obtain ⟨vs, h1, h2, h3⟩ := seqT_ok t e (kv1.mp kv)
    obtain ⟨rfl, y⟩ := y
    obtain ⟨b, h4, h5⟩ := h3.getV (y vs h1)
    exact ⟨b, w, by rw [rev_at hi]; exact h4, rfl, rfl, Ext.refl w, ok, h5⟩
theorem walkA_str {z : Str} : WalkA K [] (z.cps.toList.map fun c => .str ⟨#[c]⟩) (Its z) := by
  refine ⟨fun _ => True, fun i H v H' => H' = H ∧ ∃ c, z.cps[i]? = some c ∧ v = .str ⟨#[c]⟩, ?_, fun _ _ _ => trivial, fun i x H' w hi ok kv y => ?_⟩
  · rw [List.length_map, Array.length_toList]
    exact walk_str
  · obtain ⟨rfl, c, h1, rfl⟩ := y
    refine ⟨.str ⟨#[c]⟩, w, ?_, rfl, rfl, Ext.refl w, ok, .str _⟩
    rw [List.getElem?_map, Array.getElem?_toList, h1]
    rfl
theorem walkA_rng {lo : Int} {n : Nat} : WalkA K [] ((List.range n).map fun (k : Nat) => .int (lo + k)) (Itr lo n) := by
  refine ⟨fun _ => True, YFn fun i => .int (lo + i), ?_, fun _ _ _ => trivial, fun i x H' w hi ok kv y => ?_⟩
  · rw [List.length_map, List.length_range]
    exact walk_range
  · rw [List.length_map, List.length_range] at hi
    obtain ⟨rfl, rfl⟩ := y
    exact ⟨.int (lo + i), w, by simp [hi], rfl, rfl, Ext.refl w, ok, .int _⟩
theorem walkA_rngC {lo c : Int} {n : Nat} : WalkA K [] ((List.range n).map fun (k : Nat) => .int (lo + k * c)) (Itc lo c n) := by
  refine ⟨fun _ => True, YFn fun i => .int (lo + (i : Nat) * c), ?_, fun _ _ _ => trivial, fun i x H' w hi ok kv y => ?_⟩
  · rw [List.length_map, List.length_range]
    exact walk_rangeC
  · rw [List.length_map, List.length_range] at hi
    obtain ⟨rfl, rfl⟩ := y
    exact ⟨.int (lo + i * c), w, by simp [hi], rfl, rfl, Ext.refl w, ok, .int _⟩
/-- a new pair -/
theorem new_pair {w : Wd} {a b : AV} {x y : V} {T : Addr} (ok : WOK K w) (h1 : RW K w a x) (h2 : RW K w b y) (hT : w.H T = none) : ∃ w', w'.H = upd w.H T (.tup [x, y]) ∧ w'.st = w.st ∧ Ext w w' ∧ WOK K w' ∧ RW K w' (.tup [a, b]) (.ref T) :=
  ⟨⟨w.ro, w.fb, w.st, upd w.H T (.tup [x, y])⟩, rfl, rfl, Ext.laid hT, ok.laid hT, res_tup ok hT (.cons h1 (.cons h2 .nil))⟩
theorem walkA_zipL {a b : AV} {p q : Addr} (t : isTupA a = false) (u : isTupA b = false) (e : seqV a = some l) (e' : seqV b = some m) : WalkA K [(a, .ref p), (b, .ref q)] ((l.zip m).map fun p => .tup [p.1, p.2]) (Itz K p q) := by
  refine ⟨fun H => ∃ vs us, SqL K H p vs ∧ vs.length = l.length ∧ SqL K H q us ∧ us.length = m.length,
    fun i H v H' => ∃ T x y, v = .ref T ∧ H T = none ∧ H' = upd H T (.tup [x, y]) ∧ (∀ xs, SqL K H p xs → xs[i]? = some x) ∧ ∀ ys, SqL K H q ys → ys[i]? = some y,
    ⟨fun i H hi ⟨vs, us, q1, z1, q2, z2⟩ => ?_, fun H ⟨vs, us, q1, z1, q2, z2⟩ => ⟨vs, us, q1, q2, ?_⟩, fun _ _ _ _ _ _ y => y⟩, fun w ok kv => ?_, fun i x H' w hi ok kv y => ?_⟩
  · simp only [List.length_map, List.length_zip] at hi
    obtain ⟨x, hx⟩ := get_lt (xs := vs) (i := i) (by omega)
    obtain ⟨y, hy⟩ := get_lt (xs := us) (i := i) (by omega)
    exact ⟨vs, us, x, y, q1, q2, hx, hy⟩
  · simp only [List.length_map, List.length_zip]
    omega
  · obtain ⟨vs, h1, h2, _⟩ := seqL_ok t e (kv2.mp kv).1
    obtain ⟨us, h3, h4, _⟩ := seqL_ok u e' (kv2.mp kv).2
    exact ⟨vs, us, h1, h2, h3, h4⟩
  · obtain ⟨vs, h1, h2, g1⟩ := seqL_ok t e (kv2.mp kv).1
    obtain ⟨us, h3, h4, g2⟩ := seqL_ok u e' (kv2.mp kv).2
    obtain ⟨T, x, y, rfl, hT, rfl, hx, hy⟩ := y
    obtain ⟨c, z1, z2⟩ := g1.getV (hx vs h1)
    obtain ⟨d, z3, z4⟩ := g2.getV (hy us h3)
    obtain ⟨w', e1, e2, e3, e4, e5⟩ := new_pair ok z2 z4 hT
    exact ⟨.tup [c, d], w', by rw [List.getElem?_map, List.getElem?_zip_eq_some (z := (c, d)) |>.mpr ⟨z1, z3⟩]; rfl, e1, e2, e3, e4, e5⟩
theorem walkA_zipT {a b : AV} {p q : Addr} (t : isTupA a = true) (u : isTupA b = true) (e : seqV a = some l) (e' : seqV b = some m) : WalkA K [(a, .ref p), (b, .ref q)] ((l.zip m).map fun p => .tup [p.1, p.2]) (ItzT K p q) := by
  refine ⟨fun H => ∃ vs us, SqT K H p vs ∧ vs.length = l.length ∧ SqT K H q us ∧ us.length = m.length,
    fun i H v H' => ∃ T x y, v = .ref T ∧ H T = none ∧ H' = upd H T (.tup [x, y]) ∧ (∀ xs, SqT K H p xs → xs[i]? = some x) ∧ ∀ ys, SqT K H q ys → ys[i]? = some y,
    ⟨fun i H hi ⟨vs, us, q1, z1, q2, z2⟩ => ?_, fun H ⟨vs, us, q1, z1, q2, z2⟩ => ⟨vs, us, q1, q2, ?_⟩, fun _ _ _ _ _ _ y => y⟩, fun w ok kv => ?_, fun i x H' w hi ok kv y => ?_⟩
  · simp only [List.length_map, List.length_zip] at hi
    obtain ⟨x, hx⟩ := get_lt (xs := vs) (i := i) (by omega)
    obtain ⟨y, hy⟩ := get_lt (xs := us) (i := i) (by omega)
    exact ⟨vs, us, x, y, q1, q2, hx, hy⟩
  · simp only [List.length_map, List.length_zip]
    omega
  · obtain ⟨vs, h1, h2, _⟩ := seqT_ok t e (kv2.mp kv).1
    obtain ⟨us, h3, h4, _⟩ := seqT_ok u e' (kv2.mp kv).2
    exact ⟨vs, us, h1, h2, h3, h4⟩
  · obtain ⟨vs, h1, h2, g1⟩ := seqT_ok t e (kv2.mp kv).1
    obtain ⟨us, h3, h4, g2⟩ := seqT_ok u e' (kv2.mp kv).2
    obtain ⟨T, x, y, rfl, hT, rfl, hx, hy⟩ := y
    obtain ⟨c, z1, z2⟩ := g1.getV (hx vs h1)
    obtain ⟨d, z3, z4⟩ := g2.getV (hy us h3)
    obtain ⟨w', e1, e2, e3, e4, e5⟩ := new_pair ok z2 z4 hT
    exact ⟨.tup [c, d], w', by rw [List.getElem?_map, List.getElem?_zip_eq_some (z := (c, d)) |>.mpr ⟨z1, z3⟩]; rfl, e1, e2, e3, e4, e5⟩
theorem kv3 {w : Wd} {a b c : AV} {v u t : V} : KV K w [(a, v), (b, u), (c, t)] ↔ RW K w a v ∧ RW K w b u ∧ RW K w c t := ⟨fun h => ⟨h (a, v) (by simp), h (b, u) (by simp), h (c, t) (by simp)⟩, fun h p hp => by
  rcases List.mem_cons.mp hp with e | hp
  · subst e; exact h.1
  · rcases List.mem_cons.mp hp with e | hp
    · subst e; exact h.2.1
    · have : p = (c, t) := by simpa using hp
      subst this; exact h.2.2⟩
theorem new_triple {w : Wd} {a b c : AV} {x y z : V} {T : Addr} (ok : WOK K w) (h1 : RW K w a x) (h2 : RW K w b y) (h3 : RW K w c z) (hT : w.H T = none) : ∃ w', w'.H = upd w.H T (.tup [x, y, z]) ∧ w'.st = w.st ∧ Ext w w' ∧ WOK K w' ∧ RW K w' (.tup [a, b, c]) (.ref T) :=
  ⟨⟨w.ro, w.fb, w.st, upd w.H T (.tup [x, y, z])⟩, rfl, rfl, Ext.laid hT, ok.laid hT, res_tup ok hT (.cons h1 (.cons h2 (.cons h3 .nil)))⟩
theorem walkA_zip3 {n : List AV} {p q r : Addr} : WalkA K [(.tup l, .ref p), (.tup m, .ref q), (.tup n, .ref r)] ((l.zip (m.zip n)).map fun p => .tup [p.1, p.2.1, p.2.2]) (It3 K p q r) := by
  refine ⟨fun H => ∃ vs us ts, SqT K H p vs ∧ vs.length = l.length ∧ SqT K H q us ∧ us.length = m.length ∧ SqT K H r ts ∧ ts.length = n.length,
    fun i H v H' => ∃ T x y z, v = .ref T ∧ H T = none ∧ H' = upd H T (.tup [x, y, z]) ∧ (∀ xs, SqT K H p xs → xs[i]? = some x) ∧ (∀ ys, SqT K H q ys → ys[i]? = some y) ∧ ∀ zs, SqT K H r zs → zs[i]? = some z,
    ⟨fun i H hi ⟨vs, us, ts, q1, z1, q2, z2, q3, z3⟩ => ?_, fun H ⟨vs, us, ts, q1, z1, q2, z2, q3, z3⟩ => ⟨vs, us, ts, q1, q2, q3, ?_⟩, fun _ _ _ _ _ _ y => y⟩, fun w ok kv => ?_, fun i x H' w hi ok kv y => ?_⟩
  · simp only [List.length_map, List.length_zip] at hi
    obtain ⟨x, hx⟩ := get_lt (xs := vs) (i := i) (by omega)
    obtain ⟨y, hy⟩ := get_lt (xs := us) (i := i) (by omega)
    obtain ⟨z, hz⟩ := get_lt (xs := ts) (i := i) (by omega)
    exact ⟨vs, us, ts, x, y, z, q1, q2, q3, hx, hy, hz⟩
  · simp only [List.length_map, List.length_zip]
    omega
  · obtain ⟨k1, k2, k3⟩ := kv3.mp kv
    obtain ⟨vs, h1, h2, _⟩ := seqT_ok (l := l) rfl rfl k1
    obtain ⟨us, h3, h4, _⟩ := seqT_ok (l := m) rfl rfl k2
    obtain ⟨ts, h5, h6, _⟩ := seqT_ok (l := n) rfl rfl k3
    exact ⟨vs, us, ts, h1, h2, h3, h4, h5, h6⟩
  · obtain ⟨k1, k2, k3⟩ := kv3.mp kv
    obtain ⟨vs, h1, h2, g1⟩ := seqT_ok (l := l) rfl rfl k1
    obtain ⟨us, h3, h4, g2⟩ := seqT_ok (l := m) rfl rfl k2
    obtain ⟨ts, h5, h6, g3⟩ := seqT_ok (l := n) rfl rfl k3
    obtain ⟨T, x, y, z, rfl, hT, rfl, hx, hy, hz⟩ := y
    obtain ⟨c, z1, z2⟩ := g1.getV (hx vs h1)
    obtain ⟨d, z3, z4⟩ := g2.getV (hy us h3)
    obtain ⟨e, z5, z6⟩ := g3.getV (hz ts h5)
    obtain ⟨w', e1, e2, e3, e4, e5⟩ := new_triple ok z2 z4 z6 hT
    exact ⟨.tup [c, d, e], w', by rw [List.getElem?_map, List.getElem?_zip_eq_some (z := (c, (d, e))) |>.mpr ⟨z1, List.getElem?_zip_eq_some (z := (d, e)) |>.mpr ⟨z3, z5⟩⟩]; rfl, e1, e2, e3, e4, e5⟩
theorem walkA_zipR {p q : Addr} : WalkA K [(.tup l, .ref p), (.tup m, .ref q)] ((l.reverse.zip m.reverse).map fun p => .tup [p.1, p.2]) (ItR K p q l.length m.length) := by
  refine ⟨fun H => ∃ vs us, SqT K H p vs ∧ vs.length = l.length ∧ SqT K H q us ∧ us.length = m.length,
    fun i H v H' => ∃ T x y, v = .ref T ∧ H T = none ∧ H' = upd H T (.tup [x, y]) ∧ (∀ xs, SqT K H p xs → xs[l.length - 1 - i]? = some x) ∧ ∀ ys, SqT K H q ys → ys[m.length - 1 - i]? = some y,
    ⟨fun i H hi ⟨vs, us, q1, z1, q2, z2⟩ => ?_, fun H ⟨vs, us, q1, z1, q2, z2⟩ => ?_, fun _ _ _ _ _ _ y => y⟩, fun w ok kv => ?_, fun i x H' w hi ok kv y => ?_⟩
  · simp only [List.length_map, List.length_zip, List.length_reverse] at hi
    obtain ⟨x, hx⟩ := get_lt (xs := vs) (i := l.length - 1 - i) (by omega)
    obtain ⟨y, hy⟩ := get_lt (xs := us) (i := m.length - 1 - i) (by omega)
    exact ⟨by omega, by omega, vs, us, x, y, q1, z1, q2, z2, hx, hy⟩
  · simp only [List.length_map, List.length_zip, List.length_reverse]
    exact ⟨by omega, by omega, by omega, vs, us, q1, z1, q2, z2⟩
  · obtain ⟨k1, k2⟩ := kv2.mp kv
    obtain ⟨vs, h1, h2, _⟩ := seqT_ok (l := l) rfl rfl k1
    obtain ⟨us, h3, h4, _⟩ := seqT_ok (l := m) rfl rfl k2
    exact ⟨vs, us, h1, h2, h3, h4⟩
  · simp only [List.length_map, List.length_zip, List.length_reverse] at hi
    obtain ⟨k1, k2⟩ := kv2.mp kv
    obtain ⟨vs, h1, h2, g1⟩ := seqT_ok (l := l) rfl rfl k1
    obtain ⟨us, h3, h4, g2⟩ := seqT_ok (l := m) rfl rfl k2
    obtain ⟨T, x, y, rfl, hT, rfl, hx, hy⟩ := y
    obtain ⟨c, z1, z2⟩ := g1.getV (hx vs h1)
    obtain ⟨d, z3, z4⟩ := g2.getV (hy us h3)
    obtain ⟨w', e1, e2, e3, e4, e5⟩ := new_pair ok z2 z4 hT
    refine ⟨.tup [c, d], w', ?_, e1, e2, e3, e4, e5⟩
    rw [List.getElem?_map, List.getElem?_zip_eq_some (z := (c, d)) |>.mpr ⟨by rw [rev_at (by omega)]; exact z1, by rw [rev_at (by omega)]; exact z3⟩]
    rfl
theorem walkA_enum {a : AV} {p : Addr} (t : isTupA a = false) (e : seqV a = some l) : WalkA K [(a, .ref p)] (((List.range l.length).zip l).map fun p => .tup [.int (p.1 : Nat), p.2]) (Ite K p) := by
  refine ⟨fun H => ∃ vs, SqL K H p vs ∧ vs.length = l.length, fun i H v H' => ∃ T x, v = .ref T ∧ H T = none ∧ H' = upd H T (.tup [.int (i : Nat), x]) ∧ ∀ xs, SqL K H p xs → xs[i]? = some x,
    ⟨fun i H hi ⟨vs, q, z⟩ => ?_, fun H ⟨vs, q, z⟩ => ⟨vs, q, ?_⟩, fun _ _ _ _ _ _ y => y⟩, fun w ok kv => ?_, fun i x H' w hi ok kv y => ?_⟩
  · simp only [List.length_map, List.length_zip, List.length_range] at hi
    obtain ⟨x, hx⟩ := get_lt (xs := vs) (i := i) (by omega)
    exact ⟨vs, x, q, hx⟩
  · simp only [List.length_map, List.length_zip, List.length_range]
    omega
  · obtain ⟨vs, h1, h2, _⟩ := seqL_ok t e (kv1.mp kv)
    exact ⟨vs, h1, h2⟩
  · simp only [List.length_map, List.length_zip, List.length_range] at hi
    obtain ⟨vs, h1, h2, g1⟩ := seqL_ok t e (kv1.mp kv)
    obtain ⟨T, x, rfl, hT, rfl, hx⟩ := y
    obtain ⟨c, z1, z2⟩ := g1.getV (hx vs h1)
    obtain ⟨w', e1, e2, e3, e4, e5⟩ := new_pair ok (.int (i : Nat)) z2 hT
    refine ⟨.tup [.int (i : Nat), c], w', ?_, e1, e2, e3, e4, e5⟩
    have hi2 : i < l.length := by omega
    rw [List.getElem?_map, List.getElem?_zip_eq_some (z := (i, c)) |>.mpr ⟨show (List.range l.length)[i]? = some i by simp [hi2], z1⟩]
    rfl
end
section
variable {F : Type} {G : Glo F} {C : Cf F} {cs : Cn} {N : List Str} {k : Nat}
def tEvi (G : Glo F) (C : Cf F) (K : PySem.W.Frag) (XW : XK) (it : It F) : TI := fun σ H R => ∃ w w0 env, w.H = H ∧ WOK K w ∧ REnv K w0 w env σ ∧
  Sat K w (evi C env it w.st) (fun l w' => ∀ w2 ks J, w2.st = w'.st → Ext w w2 → WOK K w2 → KV K w2 ks → WalkA K ks l J → R J w2.H) (xq G XW)
def GoodI (G : Glo F) (C : Cf F) (cs : Cn) (N : List Str) (k : Nat) (it : It F) : Prop := ∀ (sc : Scope) (tg ast : Expr) (X : Cx) (XW : XK) (fnB : Bool), okI G.nm cs N sc it ast = true → itTg it tg = true → XOk G C cs N k X XW fnB → X.env.scope = sc → PI X tg ast (tEvi G C X.K XW it)
/-- a value that is walked, frozen if it was just made -/
theorem sat_frz {K : PySem.W.Frag} {α : Type} {w : Wd} {e : Rs R} {f : AV → Option α} {P : α → Wd → Prop} {Z : Str → List AV → Wd → Prop} (kf : ∀ a ∈ w.fb, w.H a ≠ none) (h : Sat K w (e.bind fun x s => Rs.of ((toA (fz x)).bind f) s) P Z) :
    Sat K w e (fun r w1 => ∃ a l, toA (fz r) = some a ∧ f a = some l ∧ ∀ v, RR K w w1 r v → ∃ w2, w2.H = w1.H ∧ w2.st = w1.st ∧ Ext w w2 ∧ WOK K w2 ∧ RW K w2 a v ∧ P l w2) Z := by
  refine h.bindF.imp fun r w1 ⟨e1, ok1, h1⟩ => ?_
  obtain ⟨l, hl, _⟩ := (h1 w1 e1 rfl).of2 rfl
  obtain ⟨a, q1, q2⟩ := Option.bind_eq_some_iff.mp hl
  refine ⟨a, l, q1, q2, fun v rv => ?_⟩
  obtain ⟨w2, eH, eS, e2, ok2, rv2⟩ := freeze e1 ok1 rv kf
  obtain ⟨l', hl', h3⟩ := (h1 w2 e2 eS).of_ rfl ok2
  have hl2 := hl.symm.trans hl'
  cases hl2
  exact ⟨w2, eH, eS, e2, ok2, toA_ok rv2 q1, h3⟩
end
end EV

set_option maxRecDepth 100000
set_option maxHeartbeats 2000000
namespace EV
open PySem PySem.Spec PyProof.Rows L2 RT RZ
section
variable {F : Type} {G : Glo F} {C : Cf F} {cs : Cn} {N : List Str} {k : Nat}
theorem Sat.ex {K : PySem.W.Frag} {α β : Type} {w : Wd} {r : α} {s : Sto} {g : α → Option β} {P : β → Wd → Prop} {Z : Str → List AV → Wd → Prop} (h : Sat K w ((Rs.ok r s).bind fun x s => Rs.of (g x) s) P Z) : ∃ l, g r = some l := by
  cases q : g r with
  | none =>
    have h : Sat K w (Rs.of (g r) s) P Z := h
    rw [q] at h
    exact (h : False).elim
  | some l => exact ⟨l, rfl⟩
theorem good_seq {e : E F} (he : GoodE G C cs N k e) : GoodI G C cs N k (.seq e) := by
  intro sc tg ast X XW fnB h ht xo hsc
  have hp := he sc ast X XW fnB h xo hsc
  refine PI.weak (PI.or (pi_list hp) (PI.or (pi_tup hp) (pi_str hp))) fun σ H R q => ?_
  obtain ⟨w, w0, env, rfl, ok, en, q⟩ := q
  have z := sat_frz (f := itV) ok.dom q
  have qq : Sat X.K w ((ev C env e w.st).bind fun x s => Rs.of ((toA (fz x)).bind itV) s) _ _ := q
  cases hev : ev C env e w.st with
  | stuck => rw [hev] at qq; exact (qq : False).elim
  | exc c fs s =>
    refine .inl ⟨w, w0, env, rfl, ok, en, ?_⟩
    rw [hev] at z ⊢
    exact z
  | ok r s =>
    rw [hev] at z qq
    obtain ⟨l, hl⟩ := qq.ex
    obtain ⟨a, q1, q2⟩ := Option.bind_eq_some_iff.mp hl
    have get : ∀ w', w'.st = s → Ext w w' → WOK X.K w' → ∀ v, RR X.K w w' r v → ∃ w2, w2.H = w'.H ∧ RW X.K w2 a v ∧ WOK X.K w2 ∧ ∀ ks J, KV X.K w2 ks → WalkA X.K ks l J → R J w'.H := fun w' hs e1 ok1 v rv => by
      obtain ⟨a', l', z1, z2, z3⟩ := z w' hs e1 ok1
      cases q1.symm.trans z1
      cases q2.symm.trans z2
      obtain ⟨w2, eH, eS, e2, ok2, rv2, z4⟩ := z3 v rv
      exact ⟨w2, eH, rv2, ok2, fun ks J h1 h2 => by rw [← eH]; exact z4 w2 ks J rfl e2 ok2 h1 h2⟩
    cases a with
    | str x =>
      refine .inr (.inr ⟨w, w0, env, rfl, ok, en, ?_⟩)
      rw [hev]
      intro w' hs e1 ok1 v rv
      obtain ⟨w2, eH, rv2, ok2, z⟩ := get w' hs e1 ok1 v rv
      cases rv2
      cases q2
      exact ⟨x, rfl, z [] _ (fun p hp => by cases hp) walkA_str⟩
    | tup m =>
      refine .inr (.inl ⟨w, w0, env, rfl, ok, en, ?_⟩)
      rw [hev]
      intro w' hs e1 ok1 v rv
      obtain ⟨w2, eH, rv2, ok2, z⟩ := get w' hs e1 ok1 v rv
      have e : seqV (.tup m) = some l := q2
      obtain ⟨p, vs, rfl, h1, h2, h3, h4⟩ := seqV_ok e rv2
      exact ⟨p, rfl, ⟨vs, by rw [← eH]; exact h3 rfl⟩, z _ _ (kv1.mpr rv2) (walkA_tup rfl e)⟩
    | lst m =>
      refine .inl ⟨w, w0, env, rfl, ok, en, ?_⟩
      rw [hev]
      intro w' hs e1 ok1 v rv
      obtain ⟨w2, eH, rv2, ok2, z⟩ := get w' hs e1 ok1 v rv
      have e : seqV (.lst m) = some l := q2
      obtain ⟨p, vs, rfl, h1, h2, h3, h4⟩ := seqV_ok e rv2
      exact ⟨p, rfl, ⟨vs, by rw [← eH]; exact h4 rfl⟩, z _ _ (kv1.mpr rv2) (walkA_list rfl e)⟩
    | scr m =>
      refine .inl ⟨w, w0, env, rfl, ok, en, ?_⟩
      rw [hev]
      intro w' hs e1 ok1 v rv
      obtain ⟨w2, eH, rv2, ok2, z⟩ := get w' hs e1 ok1 v rv
      have e : seqV (.scr m) = some l := q2
      obtain ⟨p, vs, rfl, h1, h2, h3, h4⟩ := seqV_ok e rv2
      exact ⟨p, rfl, ⟨vs, by rw [← eH]; exact h4 rfl⟩, z _ _ (kv1.mpr rv2) (walkA_list rfl e)⟩
    | _ => cases q2
theorem good_rev {e : E F} (he : GoodE G C cs N k e) : GoodI G C cs N k (.rev e) := by
  intro sc tg ast X XW fnB h ht xo hsc
  cases ast with
  | Call fn xs kws p =>
    cases fn with
    | Name g p2 =>
      match xs, kws, h with
      | [x], [], h =>
        replace h : (decide (g = ("reversed" : Str)) && gloB sc g && okE G.nm cs N sc e x) = true := h
        obtain ⟨h, h3⟩ := and_t h
        obtain ⟨h1, h2⟩ := and_t h
        have h1 := of_decide_eq_true h1
        subst hsc
        obtain ⟨g1, g2, g3⟩ := gloB_ok h2
        subst h1
        refine PI.weak (pi_revA g1 (xo.blt _ (by decide +kernel)) (he _ x X XW fnB h3 xo rfl) (okE_star h3 [] X.env)) fun σ H R q => ?_
        obtain ⟨w, w0, env, rfl, ok, en, q⟩ := q
        refine ⟨w, w0, env, rfl, ok, en, (sat_frz ok.dom q).imp fun r w1 ⟨a, l, z1, z2, z3⟩ v rv => ?_⟩
        obtain ⟨m, z5, z6⟩ := Option.map_eq_some_iff.mp z2
        subst z6
        obtain ⟨w2, eH, eS, e2, ok2, rv2, z4⟩ := z3 v rv
        obtain ⟨p, vs, rfl, h1, h2, h3, h4⟩ := seqV_ok z5 rv2
        refine ⟨p, vs, rfl, ?_⟩
        rw [← eH]
        cases t : isTupA a with
        | true => exact .inr ⟨h3 t, by rw [h1]; exact z4 w2 _ _ rfl e2 ok2 (kv1.mpr rv2) (walkA_revT t z5)⟩
        | false => exact .inl ⟨h4 t, by rw [h1]; exact z4 w2 _ _ rfl e2 ok2 (kv1.mpr rv2) (walkA_revL t z5)⟩
      | [], _, h => cases (show false = true from h)
      | _ :: _ :: _, _, h => cases (show false = true from h)
      | [_], _ :: _, h => cases (show false = true from h)
    | _ => cases (show false = true from h)
  | _ => cases (show false = true from h)
theorem star_of {sc : Scope} {es : Es F} {x : Expr} {xs : List Expr} (h : okEs G.nm cs N sc es (x :: xs) = true) (env : PySem.Env) (pos : Pos) : starEach (x :: xs) env = (false, eval x env) :: starEach xs env ∧ (backTo pos (starEach xs env)).any (·.1) = false := by
  cases es with
  | nil => cases (show false = true from h)
  | cons e es =>
    obtain ⟨h1, h2⟩ := and_t (show (okE G.nm cs N sc e x && okEs G.nm cs N sc es xs) = true from h)
    exact ⟨okE_star h1 xs env, backTo_any h2⟩
theorem good_zip {es : Es F} (hs : GoodEs G C cs N k es) : GoodI G C cs N k (.zip es) := by
  intro sc tg ast X XW fnB h ht xo hsc
  cases tg with
  | Tuple elts kk tpos =>
    cases ast with
    | Call fn xs kws p =>
      cases fn with
      | Name g p2 =>
        match xs, kws, h with
        | [x, y], [], h =>
          replace h : (decide (g = ("zip" : Str)) && gloB sc g && okEs G.nm cs N sc es [x, y]) = true := h
          obtain ⟨h, h3⟩ := and_t h
          obtain ⟨h1, h2⟩ := and_t h
          have h1 := of_decide_eq_true h1
          subst hsc
          obtain ⟨g1, g2, g3⟩ := gloB_ok h2
          subst h1
          obtain ⟨s1, s2⟩ := star_of h3 X.env p
          refine PI.weak (pi_zipA g1 (xo.blt _ (by decide +kernel)) (hs _ _ X XW fnB h3 xo rfl) s1 s2) fun σ H R q => ?_
          obtain ⟨w, w0, env, rfl, ok, en, q⟩ := q
          refine ⟨w, w0, env, rfl, ok, en, q.bind.imp fun rs w1 ⟨e1, ok1, h1⟩ vs rr => ?_⟩
          obtain ⟨l, hl, h2⟩ := h1.of_ rfl ok1
          unfold zipR at hl
          split at hl
          · rename_i a b _
            obtain ⟨v, u, rfl, ra, rb⟩ := pair2 rr
            have ra : RW X.K w1 a v := ra
            have rb : RW X.K w1 b u := rb
            split at hl
            · rename_i l1 m1 q1 q2
              split at hl
              · rename_i tt
                cases hl
                obtain ⟨p1, vs, rfl, z1, z2, z3, z4⟩ := seqV_ok q1 ra
                obtain ⟨p2, us, rfl, y1, y2, y3, y4⟩ := seqV_ok q2 rb
                refine ⟨p1, p2, vs, us, rfl, ?_⟩
                have tt : isTupA a = isTupA b := by simpa using tt
                cases t : isTupA a with
                | true => exact .inr ⟨z3 t, y3 (tt ▸ t), h2 w1 _ _ rfl e1 ok1 (kv2.mpr ⟨ra, rb⟩) (walkA_zipT t (tt ▸ t) q1 q2)⟩
                | false => exact .inl ⟨z4 t, y4 (tt ▸ t), h2 w1 _ _ rfl e1 ok1 (kv2.mpr ⟨ra, rb⟩) (walkA_zipL t (tt ▸ t) q1 q2)⟩
              · cases hl
            · cases hl
          · cases hl
        | [], _, h => cases (show false = true from h)
        | [_], _, h => cases (show false = true from h)
        | _ :: _ :: _ :: _, _, h => cases (show false = true from h)
        | [_, _], _ :: _, h => cases (show false = true from h)
      | _ => cases (show false = true from h)
    | _ => cases (show false = true from h)
  | _ => cases (show false = true from ht)
theorem pair3 {α β : Type} {P : α → β → Prop} {x y z : α} {vs : List β} (h : Paired P [x, y, z] vs) : ∃ v u t, vs = [v, u, t] ∧ P x v ∧ P y u ∧ P z t := by
  cases h with
  | cons r t =>
    obtain ⟨u, t, rfl, q1, q2⟩ := pair2 t
    exact ⟨_, _, _, rfl, r, q1, q2⟩
theorem good_zip3 {es : Es F} (hs : GoodEs G C cs N k es) : GoodI G C cs N k (.zip3 es) := by
  intro sc tg ast X XW fnB h ht xo hsc
  cases tg with
  | Tuple elts kk tpos =>
    cases ast with
    | Call fn xs kws p =>
      cases fn with
      | Name g p2 =>
        match xs, kws, h with
        | [x, y, z], [], h =>
          replace h : (decide (g = ("zip" : Str)) && gloB sc g && okEs G.nm cs N sc es [x, y, z]) = true := h
          obtain ⟨h, h3⟩ := and_t h
          obtain ⟨h1, h2⟩ := and_t h
          have h1 := of_decide_eq_true h1
          subst hsc
          obtain ⟨g1, g2, g3⟩ := gloB_ok h2
          subst h1
          obtain ⟨s1, s2⟩ := star_of h3 X.env p
          refine PI.weak (pi_zip3 g1 (xo.blt _ (by decide +kernel)) (hs _ _ X XW fnB h3 xo rfl) s1 s2) fun σ H R q => ?_
          obtain ⟨w, w0, env, rfl, ok, en, q⟩ := q
          refine ⟨w, w0, env, rfl, ok, en, q.bind.imp fun rs w1 ⟨e1, ok1, h1⟩ vs rr => ?_⟩
          obtain ⟨l, hl, h2⟩ := h1.of_ rfl ok1
          unfold zip3R at hl
          split at hl
          · rename_i a b c _
            obtain ⟨v, u, t, rfl, ra, rb, rc⟩ := pair3 rr
            have ra : RW X.K w1 (.tup a) v := ra
            have rb : RW X.K w1 (.tup b) u := rb
            have rc : RW X.K w1 (.tup c) t := rc
            cases hl
            obtain ⟨p1, vs, rfl, z1, z2, z3, z4⟩ := seqV_ok (l := a) rfl ra
            obtain ⟨p2, us, rfl, y1, y2, y3, y4⟩ := seqV_ok (l := b) rfl rb
            obtain ⟨p3, ts, rfl, x1, x2, x3, x4⟩ := seqV_ok (l := c) rfl rc
            exact ⟨p1, p2, p3, vs, us, ts, rfl, z3 rfl, y3 rfl, x3 rfl, h2 w1 _ _ rfl e1 ok1 (kv3.mpr ⟨ra, rb, rc⟩) walkA_zip3⟩
          · cases hl
        | [], _, h => cases (show false = true from h)
        | [_], _, h => cases (show false = true from h)
        | [_, _], _, h => cases (show false = true from h)
        | _ :: _ :: _ :: _ :: _, _, h => cases (show false = true from h)
        | [_, _, _], _ :: _, h => cases (show false = true from h)
      | _ => cases (show false = true from h)
    | _ => cases (show false = true from h)
  | _ => cases (show false = true from ht)
theorem good_zipr {a b : E F} (ha : GoodE G C cs N k a) (hb : GoodE G C cs N k b) : GoodI G C cs N k (.zipr a b) := by
  intro sc tg ast X XW fnB h ht xo hsc
  cases tg with
  | Tuple elts kk tpos =>
    replace h : (match zrB ast with
      | some (g, g1, g2, x, y) => decide (g = ("zip" : Str)) && gloB sc g && decide (g1 = ("reversed" : Str)) && gloB sc g1 && decide (g2 = ("reversed" : Str)) && okE G.nm cs N sc a x && okE G.nm cs N sc b y
      | none => false) = true := h
    split at h
    case h_2 => cases h
    rename_i g g1 g2 x y heq
    obtain ⟨p, p1, q1, p2, q2, pos, rfl⟩ := zrB_ok heq
    obtain ⟨h, h7⟩ := and_t h
    obtain ⟨h, h6⟩ := and_t h
    obtain ⟨h, h5⟩ := and_t h
    obtain ⟨h, h4⟩ := and_t h
    obtain ⟨h, h3⟩ := and_t h
    obtain ⟨h1, h2⟩ := and_t h
    have h1 := of_decide_eq_true h1
    have h3 := of_decide_eq_true h3
    have h5 := of_decide_eq_true h5
    subst hsc
    obtain ⟨z1, z2, z3⟩ := gloB_ok h2
    obtain ⟨y1, y2, y3⟩ := gloB_ok h4
    subst h1 h3 h5
    refine PI.weak (pi_zipr z1 (xo.blt _ (by decide +kernel)) y1 (xo.blt _ (by decide +kernel)) (ha _ x X XW fnB h6 xo rfl) (hb _ y X XW fnB h7 xo rfl) (okE_star h6 [] X.env) (okE_star h7 [] X.env)) fun σ H R q => ?_
    obtain ⟨w, w0, env, rfl, ok, en, q⟩ := q
    refine ⟨w, w0, env, rfl, ok, en, q.bind.imp fun r w1 ⟨e1, ok1, h1⟩ v rv => ?_⟩
    match r, h1, rv with
    | .v (.tup l), h1, rv =>
      have ra : RW X.K w1 (.tup l) v := rv
      obtain ⟨p1, vs, rfl, s1, s2, s3, s4⟩ := seqV_ok (l := l) rfl ra
      refine ⟨p1, vs, rfl, s3 rfl, w1, w0, env, rfl, ok1, en.ext ok e1, (Sat.bind h1).imp fun r' w2 ⟨e2, ok2, h3⟩ u ru => ?_⟩
      obtain ⟨n, hn, h4⟩ := h3.of_ rfl ok2
      match r', hn, ru with
      | .v (.tup m), hn, ru =>
        cases hn
        have rb : RW X.K w2 (.tup m) u := ru
        have ra2 : RW X.K w2 (.tup l) (.ref p1) := RA.ext ok1 e2 ra
        obtain ⟨p2, us, rfl, t1, t2, t3, t4⟩ := seqV_ok (l := m) rfl rb
        obtain ⟨p3, vs2, ep, u1, u2, u3, u4⟩ := seqV_ok (l := l) rfl ra2
        cases ep
        refine ⟨p2, vs2, us, rfl, u3 rfl, t3 rfl, ?_⟩
        rw [s1, t1]
        exact h4 w2 _ _ rfl (e1.trans e2) ok2 (kv2.mpr ⟨ra2, rb⟩) walkA_zipR
      | .tl c, hn, _ => cases c <;> cases hn
      | .bo _, hn, _ => cases hn
      | .v .non, hn, _ => cases hn
      | .v (.bl _), hn, _ => cases hn
      | .v (.int _), hn, _ => cases hn
      | .v (.str _), hn, _ => cases hn
      | .v (.lst _), hn, _ => cases hn
      | .v (.scr _), hn, _ => cases hn
      | .v (.loc _), hn, _ => cases hn
      | .v (.dic _ _), hn, _ => cases hn
      | .v (.dit _ _), hn, _ => cases hn
    | .tl c, h1, _ => cases c <;> exact (h1 : False).elim
    | .bo _, h1, _ => exact (h1 : False).elim
    | .v .non, h1, _ => exact (h1 : False).elim
    | .v (.bl _), h1, _ => exact (h1 : False).elim
    | .v (.int _), h1, _ => exact (h1 : False).elim
    | .v (.str _), h1, _ => exact (h1 : False).elim
    | .v (.lst _), h1, _ => exact (h1 : False).elim
    | .v (.scr _), h1, _ => exact (h1 : False).elim
    | .v (.loc _), h1, _ => exact (h1 : False).elim
    | .v (.dic _ _), h1, _ => exact (h1 : False).elim
    | .v (.dit _ _), h1, _ => exact (h1 : False).elim
  | _ => cases (show false = true from ht)
theorem good_enum {es : Es F} (hs : GoodEs G C cs N k es) : GoodI G C cs N k (.enum es) := by
  intro sc tg ast X XW fnB h ht xo hsc
  cases tg with
  | Tuple elts kk tpos =>
    cases ast with
    | Call fn xs kws p =>
      cases fn with
      | Name g p2 =>
        match xs, kws, h with
        | [x], [], h =>
          replace h : (decide (g = ("enumerate" : Str)) && gloB sc g && okEs G.nm cs N sc es [x]) = true := h
          obtain ⟨h, h3⟩ := and_t h
          obtain ⟨h1, h2⟩ := and_t h
          have h1 := of_decide_eq_true h1
          subst hsc
          obtain ⟨g1, g2, g3⟩ := gloB_ok h2
          subst h1
          obtain ⟨s1, s2⟩ := star_of h3 X.env p
          refine PI.weak (pi_enum g1 (xo.blt _ (by decide +kernel)) (hs _ _ X XW fnB h3 xo rfl) s1) fun σ H R q => ?_
          obtain ⟨w, w0, env, rfl, ok, en, q⟩ := q
          refine ⟨w, w0, env, rfl, ok, en, q.bind.imp fun rs w1 ⟨e1, ok1, h1⟩ vs rr => ?_⟩
          obtain ⟨l, hl, h2⟩ := h1.of_ rfl ok1
          unfold enumR at hl
          split at hl
          · rename_i a _
            obtain ⟨v, rfl, ra⟩ := pair1 rr
            have ra : RW X.K w1 a v := ra
            split at hl
            · rename_i l1 q1
              split at hl
              · cases hl
              · rename_i t
                cases hl
                have t : isTupA a = false := by simpa using t
                obtain ⟨p1, vs, rfl, z1, z2, z3, z4⟩ := seqV_ok q1 ra
                exact ⟨p1, vs, rfl, z4 t, h2 w1 _ _ rfl e1 ok1 (kv1.mpr ra) (walkA_enum t q1)⟩
            · cases hl
          · cases hl
        | [], _, h => cases (show false = true from h)
        | _ :: _ :: _, _, h => cases (show false = true from h)
        | [_], _ :: _, h => cases (show false = true from h)
      | _ => cases (show false = true from h)
    | _ => cases (show false = true from h)
  | _ => cases (show false = true from ht)
theorem kv0 {K : PySem.W.Frag} {w : Wd} : KV K w [] := fun p hp => by cases hp
theorem small_of {i : Int} (h : smallI i = true) : -(2 ^ 62) ≤ i ∧ i < 2 ^ 62 := by
  unfold smallI at h
  simpa using h
theorem rr_int {K : PySem.W.Frag} {w w1 : Wd} {i : Int} {v : V} (h : RR K w w1 (.v (.int i)) v) : v = .int i := by
  have h : RW K w1 (.int i) v := h
  cases h; rfl
theorem walkA_rng0 {K : PySem.W.Frag} {j : Int} : WalkA K [] (rngL 0 j) (Itr 0 j.toNat) := by
  unfold rngL
  rw [Int.sub_zero]
  exact walkA_rng
theorem good_rng {n : Nat} {es : Es F} (hs : GoodEs G C cs N k es) : GoodI G C cs N k (.rng n es) := by
  intro sc tg ast X XW fnB h ht xo hsc
  cases ast with
  | Call fn xs kws p =>
    cases fn with
    | Name g p2 =>
      match xs, kws, h with
      | x :: xs, [], h =>
        replace h : (decide (xs.length + 1 = n ∧ n ≤ 3) && decide (g = ("range" : Str)) && gloB sc g && okEs G.nm cs N sc es (x :: xs)) = true := h
        obtain ⟨h, h3⟩ := and_t h
        obtain ⟨h, h2⟩ := and_t h
        obtain ⟨h0, h1⟩ := and_t h
        obtain ⟨h0, h5⟩ := of_decide_eq_true h0
        have h1 := of_decide_eq_true h1
        subst hsc
        obtain ⟨g1, g2, g3⟩ := gloB_ok h2
        subst h1 h0
        obtain ⟨s1, s2⟩ := star_of h3 X.env p
        have hsx : ∀ (a : Expr) (as : List Expr), xs = a :: as → starEach xs X.env = (false, eval a X.env) :: starEach as X.env := by
          intro a as e
          subst e
          cases es with
          | nil => cases (show false = true from h3)
          | cons e es => exact (star_of (and_t (show (okE G.nm cs N X.env.scope e x && okEs G.nm cs N X.env.scope es (a :: as)) = true from h3)).2 X.env p).1
        match xs, h3, s1, s2, hsx, h5 with
        | [], h3, s1, s2, hsx, h5 =>
          refine PI.weak (pi_range1 g1 (xo.blt _ (by decide +kernel)) (hs _ _ X XW fnB h3 xo rfl) s1) fun σ H R q => ?_
          obtain ⟨w, w0, env, rfl, ok, en, q⟩ := q
          refine ⟨w, w0, env, rfl, ok, en, q.bind.imp fun rs w1 ⟨e1, ok1, h1⟩ vs rr => ?_⟩
          obtain ⟨l, hl, h2⟩ := h1.of_ rfl ok1
          unfold rngR at hl
          split at hl
          · split at hl
            · rename_i c
              cases hl
              obtain ⟨v, rfl, ra⟩ := pair1 rr
              have := rr_int ra; subst this
              obtain ⟨c1, c2⟩ := small_of c
              exact ⟨_, rfl, c1, c2, h2 w1 [] _ rfl e1 ok1 kv0 walkA_rng0⟩
            · cases hl
          · rename_i e _; cases e
          · rename_i e _; cases e
          · cases hl
        | [y], h3, s1, s2, hsx, h5 =>
          have s3 := hsx y [] rfl
          refine PI.weak (pi_range2 g1 (xo.blt _ (by decide +kernel)) (hs _ _ X XW fnB h3 xo rfl) (by rw [s1, s3]; rfl) (by rw [s3]; rfl)) fun σ H R q => ?_
          obtain ⟨w, w0, env, rfl, ok, en, q⟩ := q
          refine ⟨w, w0, env, rfl, ok, en, q.bind.imp fun rs w1 ⟨e1, ok1, h1⟩ vs rr => ?_⟩
          obtain ⟨l, hl, h2⟩ := h1.of_ rfl ok1
          unfold rngR at hl
          split at hl
          · rename_i e _; cases e
          · split at hl
            · rename_i c
              cases hl
              obtain ⟨v, u, rfl, ra, rb⟩ := pair2 rr
              have := rr_int ra; have := rr_int rb; subst_vars
              obtain ⟨c, d⟩ := and_t c
              obtain ⟨c1, c2⟩ := small_of c
              obtain ⟨d1, d2⟩ := small_of d
              exact ⟨_, _, rfl, ⟨c1, c2, d1, d2⟩, h2 w1 [] _ rfl e1 ok1 kv0 walkA_rng⟩
            · cases hl
          · rename_i e _; cases e
          · cases hl
        | [y, z], h3, s1, s2, hsx, h5 =>
          refine PI.weak (pi_range3 g1 (xo.blt _ (by decide +kernel)) (hs _ _ X XW fnB h3 xo rfl) s1 s2) fun σ H R q => ?_
          obtain ⟨w, w0, env, rfl, ok, en, q⟩ := q
          refine ⟨w, w0, env, rfl, ok, en, q.bind.imp fun rs w1 ⟨e1, ok1, h1⟩ vs rr => ?_⟩
          obtain ⟨l, hl, h2⟩ := h1.of_ rfl ok1
          unfold rngR at hl
          split at hl
          · rename_i e _; cases e
          · rename_i e _; cases e
          · split at hl
            · rename_i c
              cases hl
              obtain ⟨v, u, t, rfl, ra, rb, rc⟩ := pair3 rr
              have := rr_int ra; have := rr_int rb; have := rr_int rc; subst_vars
              obtain ⟨c, c4⟩ := and_t c
              obtain ⟨c, c3⟩ := and_t c
              obtain ⟨c1, c2⟩ := and_t c
              exact ⟨_, _, _, _, rfl, ⟨of_decide_eq_true c1, of_decide_eq_true c2, c3, (Int.toNat_of_nonneg (of_decide_eq_true c4)).symm⟩, h2 w1 [] _ rfl e1 ok1 kv0 walkA_rngC⟩
            · cases hl
          · cases hl
        | a :: b :: c :: ds, h3, s1, s2, hsx, h5 => simp only [List.length_cons] at h5; omega
      | [], _, h => cases (show false = true from h)
      | _ :: _, _ :: _, h => cases (show false = true from h)
    | _ => cases (show false = true from h)
  | _ => cases (show false = true from h)
end
end EV

set_option maxRecDepth 100000
set_option maxHeartbeats 2000000
namespace EV
open PySem PySem.Spec PyProof.Rows L2 RT RZ
theorem PE.or {X : Cx} {e : Expr} {t t' : TE} (h : PE X e t) (h' : PE X e t') : PE X e (fun σ H Q => t σ H Q ∨ t' σ H Q) := ⟨fun pins s σ H Q I q => by
  rcases q with q | q
  · exact h.run pins s σ H Q I q
  · exact h'.run pins s σ H Q I q⟩
theorem CallR.or {X : Cx} {f : Value} {r r' : List V → Hp → VK → Prop} (h : CallR X f r) (h' : CallR X f r') : CallR X f (fun xs H Q => r xs H Q ∨ r' xs H Q) := fun pins s σ H xs us Q I rv q => by
  rcases q with q | q
  · exact h pins s σ H xs us Q I rv q
  · exact h' pins s σ H xs us Q I rv q
theorem MtR.or {X : Cx} {f : String} {r r' : V → List V → Hp → VK → Prop} (h : MtR X f r) (h' : MtR X f r') : MtR X f (fun x xs H Q => r x xs H Q ∨ r' x xs H Q) := fun pins s σ H x xs v us Q I rx rv q => by
  rcases q with q | q
  · exact h pins s σ H x xs v us Q I rx rv q
  · exact h' pins s σ H x xs v us Q I rx rv q
/-! ### dicts -/
section
variable {A : Type} [DecidableEq A]
theorem valV_cons {k : A} {v : V} {kvs : List (A × V)} {q : A} : valV ((k, v) :: kvs) q = if k = q then some v else valV kvs q := by
  unfold valV
  rw [List.find?_cons]
  by_cases h : k = q
  · simp [h]
  · simp [h]
theorem look_ok {K : PySem.W.Frag} {ro fb : List Addr} {H : Hp} : ∀ {ks : List A} {l : List AV} {us : List V} (q : A), ks.length = l.length → RAs K ro fb H l us → (look ks l q = none ∧ valV (ks.zip us) q = none) ∨ ∃ x u, look ks l q = some x ∧ valV (ks.zip us) q = some u ∧ RA K ro fb H x u
  | [], [], _, q, _, .nil => .inl ⟨rfl, rfl⟩
  | k :: ks, x :: l, _, q, e, .cons r t => by
    have ih := look_ok (ks := ks) q (by simpa using e) t
    rw [List.zip_cons_cons, valV_cons]
    show ((if k = q then some x else look ks l q) = none ∧ _) ∨ ∃ y u, (if k = q then some x else look ks l q) = some y ∧ _
    by_cases h : k = q
    · rw [if_pos h, if_pos h]
      exact .inr ⟨x, _, rfl, rfl, r⟩
    · rw [if_neg h, if_neg h]
      exact ih
  | k :: ks, [], _, q, e, _ => by cases e
  | [], _ :: _, _, q, e, _ => by cases e
theorem any_zip {B : Type} (q : A) : ∀ {ks : List A} {us : List B}, ks.length = us.length → ((ks.zip us).any fun kv => decide (kv.1 = q)) = ks.any fun k => decide (k = q)
  | [], [], _ => rfl
  | k :: ks, u :: us, h => by
    rw [List.zip_cons_cons, List.any_cons, List.any_cons, any_zip q (by simpa using h)]
  | [], _ :: _, h => by cases h
  | _ :: _, [], h => by cases h
theorem repl_ok {K : PySem.W.Frag} {ro fb : List Addr} {H : Hp} {x : AV} {u : V} (r : RA K ro fb H x u) (q : A) : ∀ {ks : List A} {l : List AV} {us : List V}, ks.length = l.length → RAs K ro fb H l us →
    ∃ us', (ks.zip us).map (fun kv => if kv.1 = q then (kv.1, u) else kv) = ks.zip us' ∧ ks.length = (repl ks l q x).length ∧ RAs K ro fb H (repl ks l q x) us'
  | [], [], _, _, .nil => ⟨[], rfl, rfl, .nil⟩
  | k :: ks, y :: l, _, e, .cons (v := v) (vs := vs) r1 t => by
    obtain ⟨us', h1, h2, h3⟩ := repl_ok r q (ks := ks) (by simpa using e) t
    rw [List.zip_cons_cons, List.map_cons, h1]
    by_cases h : k = q
    · refine ⟨u :: us', ?_, ?_, ?_⟩
      · show (if k = q then (k, u) else (k, v)) :: _ = _
        rw [if_pos h]; rfl
      · show _ = (_ :: repl ks l q x).length
        simp [← h2]
      · show RAs K ro fb H ((if k = q then x else y) :: repl ks l q x) _
        rw [if_pos h]; exact .cons r h3
    · refine ⟨v :: us', ?_, ?_, ?_⟩
      · show (if k = q then (k, u) else (k, v)) :: _ = _
        rw [if_neg h]; rfl
      · show _ = (_ :: repl ks l q x).length
        simp [← h2]
      · show RAs K ro fb H ((if k = q then x else y) :: repl ks l q x) _
        rw [if_neg h]; exact .cons r1 h3
  | k :: ks, [], _, e, _ => by cases e
  | [], _ :: _, _, e, _ => by cases e
theorem store_ok {K : PySem.W.Frag} {ro fb : List Addr} {H : Hp} {x : AV} {u : V} {ks : List A} {l : List AV} {us : List V} (q : A) (e : ks.length = l.length) (h : RAs K ro fb H l us) (r : RA K ro fb H x u) :
    ∃ us', putK (ks.zip us) q u = (store ks l q x).1.zip us' ∧ (store ks l q x).1.length = (store ks l q x).2.length ∧ RAs K ro fb H (store ks l q x).2 us' := by
  have hl : ks.length = us.length := e.trans h.length
  unfold putK store
  rw [any_zip q hl]
  by_cases c : (ks.any fun k => decide (k = q)) = true
  · rw [if_pos c, if_pos c]
    exact repl_ok r q e h
  · rw [if_neg c, if_neg c]
    refine ⟨us ++ [u], ?_, ?_, h.append (.cons r .nil)⟩
    · show _ = (ks ++ [q]).zip (us ++ [u])
      rw [List.zip_append hl]
      rfl
    · show (ks ++ [q]).length = (l ++ [x]).length
      simp [e]
end
/-- a list, a dict -/
theorem ctOf_ok {K : PySem.W.Frag} {w : Wd} {x : R} {v : V} {c : Ct} (ok : WOK K w) (e : ctOf w.st x = some c) (h : RC K w x v) : ∃ a, v = .ref a ∧ RCt K w a c := by
  unfold ctOf at e
  split at e
  · cases e; exact h
  · cases e; exact h
  · cases e; exact h
  · split at e
    · rename_i q
      cases e
      have h : RW K w (.loc _) v := h
      obtain ⟨a, rfl, _, h2⟩ := loc_ct ok h q
      exact ⟨a, rfl, h2⟩
    · cases e
  · cases e; exact h
  · cases e; exact h
  · cases e
theorem keyA_ok {K : PySem.W.Frag} {w : Wd} {a : AV} {v : V} {k : Key} (e : keyA a = some k) (h : RC K w (.v a) v) : v = kV k := by
  cases a with
  | int i => cases e; exact h.int
  | str x => cases e; exact h.str
  | _ => cases e
/-- a dict asked at a key -/
theorem dget_ok {K : PySem.W.Frag} {w : Wd} {x y : R} {v u : V} {o : Option AV} (ok : WOK K w) (e : dgetR w.st x y = some o) (rx : RC K w x v) (ry : RC K w y u) :
    ∃ a, v = .ref a ∧ IsD w.H a ∧ ((o = none ∧ DGet w.H a u none) ∨ ∃ b z, o = some b ∧ DGet w.H a u (some z) ∧ RW K w b z) := by
  unfold dgetR at e
  split at e
  · rename_i ks vs b q
    obtain ⟨k, hk, e⟩ := Option.map_eq_some_iff.mp e
    obtain ⟨a, rfl, us, h1, h2, h3⟩ := ctOf_ok ok q rx
    have := keyA_ok hk ry; subst this
    have h1 : w.H a = some (.dK (ks.zip us)) := h1
    refine ⟨a, rfl, .inl ⟨_, .inl h1⟩, ?_⟩
    rcases look_ok k h2 h3 with ⟨z1, z2⟩ | ⟨x, z, z1, z2, z3⟩
    · exact .inl ⟨e ▸ z1, z2 ▸ DGet.k h1⟩
    · exact .inr ⟨x, z, e ▸ z1, z2 ▸ DGet.k h1, z3⟩
  · cases e
/-! ### sorting -/
theorem insI_perm (x : Int) : ∀ l : List Int, (insI x l).Perm (x :: l)
  | [] => .refl _
  | y :: l => by
    unfold insI
    split
    · exact .refl _
    · exact ((insI_perm x l).cons y).trans (List.Perm.swap ..)
theorem sortI_perm : ∀ l : List Int, (sortI l).Perm l
  | [] => .refl _
  | x :: l => (insI_perm x _).trans ((sortI_perm l).cons x)
theorem insI_pw (x : Int) : ∀ l : List Int, l.Pairwise (· ≤ ·) → (insI x l).Pairwise (· ≤ ·)
  | [], _ => by unfold insI; simp
  | y :: l, h => by
    obtain ⟨h1, h2⟩ := List.pairwise_cons.mp h
    unfold insI
    split
    · rename_i c
      refine List.pairwise_cons.mpr ⟨fun z hz => ?_, h⟩
      rcases List.mem_cons.mp hz with rfl | hz
      · exact c
      · exact Int.le_trans c (h1 z hz)
    · rename_i c
      refine List.pairwise_cons.mpr ⟨fun z hz => ?_, insI_pw x l h2⟩
      rcases List.mem_cons.mp ((insI_perm x l).mem_iff.mp hz) with rfl | hz
      · omega
      · exact h1 z hz
theorem sortI_pw : ∀ l : List Int, (sortI l).Pairwise (· ≤ ·)
  | [] => .nil
  | x :: l => insI_pw x _ (sortI_pw l)
theorem sortI_eq {l m : List Int} (p : m.Perm l) (s : m.Pairwise (· ≤ ·)) : m = sortI l :=
  List.Perm.eq_of_pairwise (le := (· ≤ ·)) (fun a b _ _ h1 h2 => Int.le_antisymm h1 h2) s (sortI_pw l) (p.trans (sortI_perm l).symm)
theorem minI_ok : ∀ {l : List Int} {m : Int}, minI l = some m → m ∈ l ∧ ∀ y ∈ l, m ≤ y
  | [], m, h => by cases h
  | [x], m, h => by cases h; simp
  | x :: y :: l, m, h => by
    obtain ⟨m', h1, h2⟩ := Option.map_eq_some_iff.mp (show (minI (y :: l)).map (fun m => if m < x then m else x) = some m from h)
    obtain ⟨g1, g2⟩ := minI_ok h1
    split at h2
    · rename_i c
      subst h2
      refine ⟨List.mem_cons_of_mem _ g1, fun z hz => ?_⟩
      rcases List.mem_cons.mp hz with rfl | hz
      · omega
      · exact g2 z hz
    · rename_i c
      subst h2
      refine ⟨List.mem_cons_self .., fun z hz => ?_⟩
      rcases List.mem_cons.mp hz with rfl | hz
      · omega
      · have := g2 z hz; omega
theorem maxI_ok : ∀ {l : List Int} {m : Int}, maxI l = some m → m ∈ l ∧ ∀ y ∈ l, y ≤ m
  | [], m, h => by cases h
  | [x], m, h => by cases h; simp
  | x :: y :: l, m, h => by
    obtain ⟨m', h1, h2⟩ := Option.map_eq_some_iff.mp (show (maxI (y :: l)).map (fun m => if x < m then m else x) = some m from h)
    obtain ⟨g1, g2⟩ := maxI_ok h1
    split at h2
    · rename_i c
      subst h2
      refine ⟨List.mem_cons_of_mem _ g1, fun z hz => ?_⟩
      rcases List.mem_cons.mp hz with rfl | hz
      · omega
      · exact g2 z hz
    · rename_i c
      subst h2
      refine ⟨List.mem_cons_self .., fun z hz => ?_⟩
      rcases List.mem_cons.mp hz with rfl | hz
      · omega
      · have := g2 z hz; omega
/-! ### operations of one value -/
def Op1Ok (X : Cx) (o : Op1) (x ast : Expr) : Prop := ∃ rd : V → Hp → VK → Prop, (∀ t : TE, PE X x t → PE X ast (fun σ H Q => t σ H fun v H1 => rd v H1 Q)) ∧
  ∀ (w : Wd) (y : R) (v : V) (r : R) (Q : VK), WOK X.K w → RC X.K w y v → opR1 w.st o y = some r → Ans X.K w r Q → rd v w.H Q
section
variable {F : Type} {G : Glo F} {C : Cf F} {cs : Cn} {N : List Str} {k : Nat}
theorem op1_call {X : Cx} {XW : XK} {fnB : Bool} (xo : XOk G C cs N k X XW fnB) {x : Expr} {g : Str} {p pos : Pos} (hs : starEach [x] X.env = (false, eval x X.env) :: starEach [] X.env) (hg : gloB X.env.scope g = true) {o : Op1} (ho : op1N o = some g) :
    Op1Ok X o x (.Call (.Name g p) [x] [] pos) := by
  obtain ⟨g1, g2, g3⟩ := gloB_ok hg
  cases o with
  | lset => cases ho
  | neg => cases ho
  | rvs => cases ho
  | intb =>
    cases ho
    refine ⟨_, fun t hx => pe_callTy call_int1 g1 (xo.blt _ (by decide +kernel)) (by decide +kernel) (pa_cons hx pa_nil hs) g3 g2 hs rfl, fun w y v r Q ok ry e h => ?_⟩
    have e : intbR y = some r := e
    unfold intbR at e
    split at e
    · cases e
      have := ry.bl; subst this
      exact .inr ⟨_, rfl, h.val ok (.int _)⟩
    · cases e
      have := ry.int; subst this
      exact .inl ⟨_, rfl, h.val ok (.int _)⟩
    · cases e
  | sorted =>
    cases ho
    refine ⟨_, fun t hx => pe_callB (CallR.or cr_sortedI cr_sortedT) g1 (xo.blt _ (by decide +kernel)) boot_sorted (pa_cons hx pa_nil hs) g3 g2 hs rfl, fun w y v r Q ok ry e h => ?_⟩
    obtain ⟨l, hl, e⟩ := Option.bind_eq_some_iff.mp (show (seqOf w.st y).bind (fun l => (intsOf l).map fun ns => R.tl (.lst ((sortI ns).map .int))) = some r from e)
    obtain ⟨ns, hns, rfl⟩ := Option.map_eq_some_iff.mp e
    obtain ⟨a, vs, rfl, h1, h2, h3⟩ := seq_ok ok hl ry
    have e2 := h1.of_ints hns
    subst e2
    have go : ∀ (ns' : List Int) (p : Addr), ns'.Perm ns → ns'.Pairwise (· ≤ ·) → w.H p = none → Q (.ref p) (upd w.H p (.lst (ns'.map V.int))) := fun ns' p q1 q2 hp => by
      rw [sortI_eq q1 q2]
      exact h.lst ok RAs.ints hp
    cases t : isTup y with
    | true => exact .inr ⟨a, ns, rfl, h2 t, go⟩
    | false => exact .inl ⟨a, ns, rfl, h3 t, go⟩
  | minL =>
    cases ho
    refine ⟨_, fun t hx => pe_callB (cr_min xo.hc) g1 (xo.blt _ (by decide +kernel)) boot_min (pa_cons hx pa_nil hs) g3 g2 hs rfl, fun w y v r Q ok ry e h => ?_⟩
    obtain ⟨l, hl, e⟩ := Option.bind_eq_some_iff.mp (show (lstOf w.st y).bind (fun l => (intsOf l).bind fun ns => (minI ns).map fun m => R.v (.int m)) = some r from e)
    obtain ⟨ns, hns, e⟩ := Option.bind_eq_some_iff.mp e
    obtain ⟨m, hm, rfl⟩ := Option.map_eq_some_iff.mp e
    obtain ⟨a, vs, rfl, h1, h2⟩ := lstOf_ok ok hl ry
    have e2 := h2.of_ints hns
    subst e2
    obtain ⟨g4, g5⟩ := minI_ok hm
    refine ⟨a, ns, rfl, SqL.of h1, List.length_pos_of_mem g4, fun m' q1 q2 => ?_⟩
    have : m' = m := Int.le_antisymm (q2 m g4) (g5 m' q1)
    rw [this]
    exact h.val ok (.int _)
  | maxL =>
    cases ho
    refine ⟨_, fun t hx => pe_callB (cr_max xo.hc) g1 (xo.blt _ (by decide +kernel)) boot_max (pa_cons hx pa_nil hs) g3 g2 hs rfl, fun w y v r Q ok ry e h => ?_⟩
    obtain ⟨l, hl, e⟩ := Option.bind_eq_some_iff.mp (show (lstOf w.st y).bind (fun l => (intsOf l).bind fun ns => (maxI ns).map fun m => R.v (.int m)) = some r from e)
    obtain ⟨ns, hns, e⟩ := Option.bind_eq_some_iff.mp e
    obtain ⟨m, hm, rfl⟩ := Option.map_eq_some_iff.mp e
    obtain ⟨a, vs, rfl, h1, h2⟩ := lstOf_ok ok hl ry
    have e2 := h2.of_ints hns
    subst e2
    obtain ⟨g4, g5⟩ := maxI_ok hm
    refine ⟨a, ns, rfl, SqL.of h1, List.length_pos_of_mem g4, fun m' q1 q2 => ?_⟩
    have : m' = m := Int.le_antisymm (g5 m' q1) (q2 m g4)
    rw [this]
    exact h.val ok (.int _)
theorem isM1_ok {s : Expr} (h : isM1 s = true) : ∃ k p1 p2, s = .UnaryOp .USub (.Constant (.int 1) k p1) p2 := by
  unfold isM1 at h
  split at h
  · exact ⟨_, _, _, rfl⟩
  · cases h
theorem slM1_ok {s : Expr} (h : slM1 s = true) : ∃ k p1 p2 p3, s = .Slice none none (some (.UnaryOp .USub (.Constant (.int 1) k p1) p2)) p3 := by
  unfold slM1 at h
  split at h
  · obtain ⟨k, p1, p2, rfl⟩ := isM1_ok h
    exact ⟨_, _, _, _, rfl⟩
  · cases h
theorem nmOf_ok {f : Expr} {g : Str} (h : nmOf f = some g) : ∃ p, f = .Name g p := by
  unfold nmOf at h
  split at h
  · cases h; exact ⟨_, rfl⟩
  · cases h
theorem only1_ok {xs : List Expr} {ks : List Keyword} {x : Expr} (h : only1 xs ks = some x) : xs = [x] ∧ ks = [] := by
  unfold only1 at h
  split at h
  · cases h; exact ⟨rfl, rfl⟩
  · cases h
theorem op1_ok {X : Cx} {XW : XK} {fnB : Bool} (xo : XOk G C cs N k X XW fnB) {x ast : Expr} {o : Op1} (h : op1B o X.env.scope ast = some x) {a : E F} (ha : okE G.nm cs N X.env.scope a x = true) : Op1Ok X o x ast := by
  unfold op1B at h
  split at h
  · split at h
    · rename_i c
      obtain ⟨rfl, rfl⟩ := c
      cases h
      refine ⟨_, fun t hx => pe_un un_neg hx, fun w y v r Q ok ry e h => ?_⟩
      have e : negR y = some r := e
      unfold negR at e
      split at e
      · cases e
        have := ry.int; subst this
        exact ⟨_, rfl, h.val ok (.int _)⟩
      · cases e
    · cases h
  · split at h
    · rename_i c
      obtain ⟨rfl, c⟩ := c
      cases h
      obtain ⟨k, p1, p2, p3, rfl⟩ := slM1_ok c
      refine ⟨_, fun t hx => pe_rev hx, fun w y v r Q ok ry e h => ?_⟩
      have e : rvsR w.st y = some r := e
      unfold rvsR at e
      split at e
      · rename_i l q
        cases e
        obtain ⟨a, vs, rfl, h1, h2⟩ := lstOf_ok ok q ry
        exact ⟨a, vs, rfl, .inl ⟨SqL.of h1, fun p hp => h.lst ok h2.reverse hp⟩⟩
      · split at e
        · cases e
          obtain ⟨a, vs, rfl, h1, h2⟩ := ry.tup
          exact ⟨a, vs, rfl, .inr ⟨h1, fun p hp => h.tup ok h2.reverse hp⟩⟩
        · cases e
    · cases h
  · split at h
    · rename_i g x h1 h2
      split at h
      · rename_i co
        subst co
        obtain ⟨pp, rfl⟩ := nmOf_ok h1
        obtain ⟨rfl, rfl⟩ := only1_ok h2
        unfold lsetX at h
        split at h
        · split at h
          · rename_i c
            cases h
            obtain ⟨rfl, c2, rfl, c4⟩ := c
            obtain ⟨g1, g2, g3⟩ := gloB_ok c2
            obtain ⟨g4, g5, g6⟩ := gloB_ok c4
            refine ⟨_, fun t hx => pe_lenSet g1 (xo.blt _ (by decide +kernel)) g4 (xo.blt _ (by decide +kernel)) hx xo.hc (okE_star ha [] X.env), fun w y v r Q ok ry e h => ?_⟩
            obtain ⟨l, hl, e⟩ := Option.bind_eq_some_iff.mp (show (lstOf w.st y).bind (fun l => (intsOf l).bind fun ns => if decide (ns.length ≤ 4000) then some (R.v (.int (setN ns : Nat))) else none) = some r from e)
            obtain ⟨ns, hns, e⟩ := Option.bind_eq_some_iff.mp e
            split at e
            · rename_i c
              cases e
              obtain ⟨a, vs, rfl, h1, h2⟩ := lstOf_ok ok hl ry
              have e2 := h2.of_ints hns
              subst e2
              exact ⟨a, ns, rfl, SqL.of h1, of_decide_eq_true c, h.val ok (.int _)⟩
            · cases e
          · cases h
        · cases h
      split at h
      · rename_i c
        cases h
        obtain ⟨p, rfl⟩ := nmOf_ok h1
        obtain ⟨rfl, rfl⟩ := only1_ok h2
        exact op1_call xo (okE_star ha [] X.env) c.2 c.1
      · cases h
    · cases h
  · cases h
theorem good_op1 (o : Op1) {a : E F} (ha : GoodE G C cs N k a) : GoodE G C cs N k (.op1 o a) := by
  intro sc ast X XW fnB h xo hsc
  replace h : (match op1B o sc ast with
    | some y => okE G.nm cs N sc a y
    | none => false) = true := h
  split at h
  · rename_i y hy
    subst hsc
    obtain ⟨rd, k1, k2⟩ := op1_ok xo hy h
    refine PE.weak (k1 _ (ha _ y X XW fnB h xo rfl)) fun σ H Q q => ?_
    obtain ⟨w, w0, env, rfl, ok, en, q⟩ := q
    refine ⟨w, w0, env, rfl, ok, en, q.bind.imp fun r w1 ⟨e1, ok1, h1⟩ v rv => ?_⟩
    obtain ⟨r', hr, h2⟩ := ans_of e1 h1
    exact k2 w1 _ v r' Q ok1 rv.rc hr h2
  · cases h
/-! ### operations of two, three values -/
theorem attr1_ok {f x : Expr} {a : Str} {ap : Pos} (h : attr1 f = some (x, a, ap)) : f = .Attribute x a ap := by
  unfold attr1 at h
  split at h
  · cases h; rfl
  · cases h
theorem only2_ok {xs : List Expr} {ks : List Keyword} {x y : Expr} (h : only2 xs ks = some (x, y)) : xs = [x, y] ∧ ks = [] := by
  unfold only2 at h
  split at h
  · cases h; exact ⟨rfl, rfl⟩
  · cases h
theorem cmp1_ok {qs : List CmpOp} {ys : List Expr} {q : CmpOp} {y : Expr} (h : cmp1 qs ys = some (q, y)) : qs = [q] ∧ ys = [y] := by
  unfold cmp1 at h
  split at h
  · cases h; exact ⟨rfl, rfl⟩
  · cases h
def Op2A (X : Cx) (o : Op2) (x z ast : Expr) : Prop := ∃ (rd : V → V → Hp → VK → Prop), (∀ t t' : TE, PE X x t → PE X z t' → PE X ast (fun σ H Q => t σ H fun v H1 => t' σ H1 fun u H2 => rd v u H2 Q)) ∧
  ∀ (w : Wd) (y y' : R) (v u : V) (r : R) (Q : VK), WOK X.K w → RC X.K w y v → RC X.K w y' u → opR2 w.st o y y' = some r → Ans X.K w r Q → rd v u w.H Q
def Op2B' (X : Cx) (o : Op2) (x z ast : Expr) : Prop := ∃ (cond : V → Hp → Prop) (rd : V → V → Hp → VK → Prop), (∀ t t' : TE, PE X x t → PE X z t' → PE X ast (fun σ H Q => t σ H fun v H1 => cond v H1 ∧ t' σ H1 fun u H2 => rd v u H2 Q)) ∧
  (∀ (w : Wd) (y : R) (v : V), WOK X.K w → RC X.K w y v → op2L w.st o y = true → cond v w.H) ∧
  ∀ (w : Wd) (y y' : R) (v u : V) (r : R) (Q : VK), WOK X.K w → RC X.K w y v → RC X.K w y' u → opR2 w.st o y y' = some r → Ans X.K w r Q → rd v u w.H Q
theorem okE_nosl {nm : F → Option Str} {sc : Scope} {e : E F} {y : Expr} (h : okE nm cs N sc e y = true) : NoSl y := by
  cases y with
  | Slice a b c p => cases e <;> cases (show false = true from h)
  | _ => exact fun _ _ => rfl
theorem idxD_ok {d : PyData} : ∀ {ds : List PyData} {j : Nat}, idxD d ds = some j → ∃ z, ds[j]? = some z ∧ PyData.eqv z d = true ∧ ∀ (m : Nat) (z' : PyData), m < j → ds[m]? = some z' → PyData.eqv z' d = false
  | [], j, h => by cases h
  | z :: l, j, h => by
    have h : (if PyData.eqv z d then some 0 else (idxD d l).map (· + 1)) = some j := h
    split at h
    · rename_i c
      cases h
      exact ⟨z, rfl, c, fun m z' hm => absurd hm (Nat.not_lt_zero _)⟩
    · rename_i c
      obtain ⟨j', h1, rfl⟩ := Option.map_eq_some_iff.mp h
      obtain ⟨z1, q1, q2, q3⟩ := idxD_ok h1
      refine ⟨z1, q1, q2, fun m z' hm hz => ?_⟩
      cases m with
      | zero => cases hz; simpa using c
      | succ m => exact q3 m z' (by omega) hz
theorem callE_no' {nm : F → Option Str} {sc : Scope} {e : E F} {x : Expr} (h : okE nm cs N sc e x = true) (a : Str) (env : PySem.Env) : attributeBase x a env (eval x env) = eval x env := by
  cases x with
  | Call f xs kws p =>
    cases f with
    | Name g q =>
      match xs, kws, h with
      | [], [], h => cases e <;> cases (show false = true from h)
      | [], _ :: _, h => rfl
      | _ :: _, _, h => rfl
    | _ => rfl
  | _ => rfl
theorem few1' {e : Expr} {env : PySem.Env} {cpos : Pos} (hs : starEach [e] env = (false, eval e env) :: starEach [] env) : ((backTo cpos (starEach [e] env)).all (fun x => !x.1) && (backToKw cpos (keywordEach [] env)).all (fun x => x.1.isSome)
      && decide (([e] : List Expr).length + ([] : List Keyword).length + (if ([] : List Keyword).isEmpty then 0 else 1) < 30)) = true := by
  rw [hs]
  rfl
theorem Ans.ext {K : PySem.W.Frag} {w w' : Wd} {r : R} {Q : V → Hp → Prop} (h : Ans K w r Q) (e : Ext w w') (st : w'.st = w.st) : Ans K w' r Q :=
  fun w2 s2 e2 ok2 v rv => h w2 (s2.trans st) (e.trans e2) ok2 v (rv.back e)
theorem lay_ok {K : PySem.W.Frag} : ∀ {l m : List AV} {w : Wd} {vs us : List V} {ts : List Addr} {H' : Hp}, WOK K w → RWs K w l vs → RWs K w m us → Lay w.H (vs.zip us) ts H' → ∃ w', w'.H = H' ∧ w'.st = w.st ∧ Ext w w' ∧ WOK K w' ∧ RWs K w' ((l.zip m).map fun p => .tup [p.1, p.2]) (ts.map V.ref)
  | [], m, w, vs, us, ts, H', ok, h1, h2, y => by
    cases h1
    cases y
    exact ⟨w, rfl, rfl, Ext.refl w, ok, .nil⟩
  | a :: l, [], w, vs, us, ts, H', ok, h1, h2, y => by
    cases h2
    rw [List.zip_nil_right] at y
    cases y
    exact ⟨w, rfl, rfl, Ext.refl w, ok, .nil⟩
  | a :: l, b :: m, w, vs, us, ts, H', ok, h1, h2, y => by
    cases h1 with
    | cons ra rl =>
      cases h2 with
      | cons rb rm =>
        cases y with
        | cons hT y =>
          obtain ⟨w1, e1, e2, e3, ok1, r1⟩ := new_pair ok ra rb hT
          rw [← e1] at y
          obtain ⟨w', f1, f2, f3, ok2, r2⟩ := lay_ok ok1 (RAs.ext ok e3 rl) (RAs.ext ok e3 rm) y
          exact ⟨w', f1, f2.trans e2, e3.trans f3, ok2, .cons (RA.ext ok1 f3 r1) r2⟩
theorem op2_ok {X : Cx} {XW : XK} {fnB : Bool} (xo : XOk G C cs N k X XW fnB) {x z ast : Expr} {o : Op2} (h : op2B o X.env.scope ast = some (x, z)) {a b : E F} (ha : okE G.nm cs N X.env.scope a x = true) (hb : okE G.nm cs N X.env.scope b z = true) : Op2A X o x z ast ∨ Op2B' X o x z ast := by
  have hu : X.A.units + 1 < cLine := by have := u65 xo.room; omega
  unfold op2B at h
  split at h
  · split at h
    · rename_i c
      cases h
      subst c
      refine .inl ⟨_, fun t t' hx hz => pe_dget hu hx hz (okE_nosl hb), fun w y y' v u r Q ok ry ry' e h => ?_⟩
      obtain ⟨o, q1, q2⟩ := Option.bind_eq_some_iff.mp (show (dgetR w.st y y').bind (fun o => o.map R.v) = some r from e)
      obtain ⟨b, rfl, rfl⟩ := Option.map_eq_some_iff.mp q2
      obtain ⟨a, rfl, _, ⟨z, _⟩ | ⟨b', z, e1, h1, h2⟩⟩ := dget_ok ok q1 ry ry'
      · cases z
      · cases e1
        exact ⟨a, z, rfl, h1, h.val ok h2⟩
    · cases h
  · split at h
    · rename_i q y hc
      obtain ⟨rfl, rfl⟩ := cmp1_ok hc
      split at h
      · rename_i c
        cases h
        rcases c with ⟨rfl, rfl⟩ | ⟨rfl, rfl⟩
        · refine .inl ⟨_, fun t t' hx hz => pe_cmp (pc_din hu hx hz) (okE_mark hb _), fun w y y' v u r Q ok ry ry' e h => ?_⟩
          obtain ⟨o, q1, rfl⟩ := Option.map_eq_some_iff.mp (show (dgetR w.st y' y).map (fun o => R.v (.bl o.isSome)) = some r from e)
          obtain ⟨a, rfl, _, ⟨rfl, h1⟩ | ⟨b', z, rfl, h1, h2⟩⟩ := dget_ok ok q1 ry' ry
          · exact ⟨a, _, rfl, h1, h.val ok (.bl _)⟩
          · exact ⟨a, _, rfl, h1, h.val ok (.bl _)⟩
        · refine .inl ⟨_, fun t t' hx hz => pe_cmp (pc_dnotin hu hx hz) (okE_mark hb _), fun w y y' v u r Q ok ry ry' e h => ?_⟩
          obtain ⟨o, q1, rfl⟩ := Option.map_eq_some_iff.mp (show (dgetR w.st y' y).map (fun o => R.v (.bl !o.isSome)) = some r from e)
          obtain ⟨a, rfl, _, ⟨rfl, h1⟩ | ⟨b', z, rfl, h1, h2⟩⟩ := dget_ok ok q1 ry' ry
          · exact ⟨a, _, rfl, h1, h.val ok (.bl _)⟩
          · exact ⟨a, _, rfl, h1, h.val ok (.bl _)⟩
      · cases h
    · cases h
  · split at h
    · rename_i x' a' ap y h1 h2
      split at h
      · rename_i c
        cases h
        obtain ⟨rfl, rfl, c⟩ := c
        cases attr1_ok h1
        obtain ⟨rfl, rfl⟩ := only1_ok h2
        have hs := okE_star hb [] X.env
        refine .inr ⟨_, _, fun t t' hx hz => pe_bm PySem.F.plainAttrs_list PySem.F.slot_list_index PySem.F.type_list_index (mt_indexD (u65 xo.room)) hx (pa_cons hz pa_nil hs) (callE_no' ha _ _) (few1' hs) c hs rfl, fun w y v ok ry e => ?_, fun w y y' v u r Q ok ry ry' e h => ?_⟩
        · obtain ⟨l, hl⟩ := Option.isSome_iff_exists.mp (show (lstOf w.st y).isSome = true from e)
          obtain ⟨a, vs, rfl, h1, h2⟩ := lstOf_ok ok hl ry
          exact .inl ⟨rfl, _, SqL.of h1⟩
        · have e : idxR w.st y y' = some r := e
          unfold idxR at e
          split at e
          · rename_i ds d q1 q2
            split at e
            · rename_i c
              obtain ⟨c1, c2⟩ := and_t c
              obtain ⟨j, hj, rfl⟩ := Option.map_eq_some_iff.mp e
              obtain ⟨z, z1, z2, z3⟩ := idxD_ok hj
              have d1 := dat_dp ok q1 ry
              cases d1 with
              | lst g1 g2 => exact ⟨_, u, d, ds, j, z, rfl, rfl, .lst g1 g2, dat_dp ok q2 ry', c2, c1, z1, z2, z3, h.val ok (.int _)⟩
            · cases e
          · cases e
      · cases h
    · rename_i y h1 h2
      split at h
      · rename_i c
        subst c
        obtain ⟨rfl, rfl⟩ := only1_ok h2
        unfold lzX at h
        split at h
        · split at h
          · rename_i c
            cases h
            obtain ⟨c1, c2, rfl, c4⟩ := c
            obtain ⟨pp, rfl⟩ := nmOf_ok c1
            obtain ⟨g1, g2, g3⟩ := gloB_ok c2
            obtain ⟨g4, g5, g6⟩ := gloB_ok c4
            have s1 := okE_star ha [z] X.env
            have s2 := okE_star hb [] X.env
            refine .inl ⟨fun v u H Q => rLz X.K [v, u] H Q, fun t t' hx hz => pe_listZip xo.hc g1 (xo.blt _ (by decide +kernel)) g4 (xo.blt _ (by decide +kernel)) (pa_cons hx (pa_cons hz pa_nil s2) s1) s1 (by rw [s2]; rfl), fun w y y' v u r Q ok ry ry' e h => ?_⟩
            have e : (match lstOf w.st y, lstOf w.st y' with
              | some l, some m => some (R.tl (.lst ((l.zip m).map fun p => .tup [p.1, p.2])))
              | _, _ => none) = some r := e
            split at e
            · rename_i l m q1 q2
              cases e
              obtain ⟨a, vs, rfl, k1, k2⟩ := lstOf_ok ok q1 ry
              obtain ⟨b, us, rfl, k3, k4⟩ := lstOf_ok ok q2 ry'
              refine ⟨a, b, vs, us, rfl, SqL.of k1, SqL.of k3, fun ts H' p lay hp => ?_⟩
              obtain ⟨w', f1, f2, f3, ok2, r2⟩ := lay_ok ok k2 k4 lay
              rw [← f1] at hp ⊢
              exact (h.ext f3 f2).lst ok2 r2 hp
            · cases e
          · cases h
        · cases h
      · cases h
    · cases h
  · cases h
theorem good_op2 (o : Op2) {a b : E F} (ha : GoodE G C cs N k a) (hb : GoodE G C cs N k b) : GoodE G C cs N k (.op2 o a b) := by
  intro sc ast X XW fnB h xo hsc
  replace h : (match op2B o sc ast with
    | some (y, z) => okE G.nm cs N sc a y && okE G.nm cs N sc b z
    | none => false) = true := h
  split at h
  · rename_i y z hy
    obtain ⟨h1, h2⟩ := and_t h
    subst hsc
    rcases op2_ok xo hy h1 h2 with ⟨rd, k1, k2⟩ | ⟨cond, rd, k1, k0, k2⟩
    · refine PE.weak (k1 _ _ (ha _ y X XW fnB h1 xo rfl) (hb _ z X XW fnB h2 xo rfl)) fun σ H Q q => ?_
      obtain ⟨w, w0, env, rfl, ok, en, q⟩ := q
      refine ⟨w, w0, env, rfl, ok, en, q.bind.imp fun r w1 ⟨e1, ok1, h1⟩ v rv => ?_⟩
      cases hl : op2L w1.st o (fz r) with
      | false => rw [hl] at h1; exact (h1 : False).elim
      | true =>
        rw [hl] at h1
        refine ⟨w1, w0, env, rfl, ok1, en.ext ok e1, (Sat.bind h1).imp fun r' w2 ⟨e2, ok2, h3⟩ u ru => ?_⟩
        obtain ⟨r2, hr, h4⟩ := ans_of (e1.trans e2) h3
        exact k2 w2 _ _ v u r2 Q ok2 (rv.rcx e1 ok1 e2) ru.rc hr h4
    · refine PE.weak (k1 _ _ (ha _ y X XW fnB h1 xo rfl) (hb _ z X XW fnB h2 xo rfl)) fun σ H Q q => ?_
      obtain ⟨w, w0, env, rfl, ok, en, q⟩ := q
      refine ⟨w, w0, env, rfl, ok, en, q.bind.imp fun r w1 ⟨e1, ok1, h1⟩ v rv => ?_⟩
      cases hl : op2L w1.st o (fz r) with
      | false => rw [hl] at h1; exact (h1 : False).elim
      | true =>
        rw [hl] at h1
        refine ⟨k0 w1 _ v ok1 rv.rc hl, w1, w0, env, rfl, ok1, en.ext ok e1, (Sat.bind h1).imp fun r' w2 ⟨e2, ok2, h3⟩ u ru => ?_⟩
        obtain ⟨r2, hr, h4⟩ := ans_of (e1.trans e2) h3
        exact k2 w2 _ _ v u r2 Q ok2 (rv.rcx e1 ok1 e2) ru.rc hr h4
  · cases h
theorem m2_ok {X : Cx} {o y z : Expr} {ap cp : Pos} {m : Str} {a b c : E F} (ho : okE G.nm cs N X.env.scope a o = true) (hy : okE G.nm cs N X.env.scope b y = true) (hz : okE G.nm cs N X.env.scope c z = true) (hl : (ap.endLine == cp.line) = true) : M2 X o m ap y z cp := by
  have h1 := okE_star hy [z] X.env
  have h2 := okE_star hz [] X.env
  refine ⟨callE_no' ho _ _, ?_, hl, ?_⟩
  · rw [h1, h2]; rfl
  · rw [h1, h2]; rfl
theorem good_op3 (o : Op3) {a b c : E F} (ha : GoodE G C cs N k a) (hb : GoodE G C cs N k b) (hc : GoodE G C cs N k c) : GoodE G C cs N k (.op3 o a b c) := by
  intro sc ast X XW fnB h xo hsc
  replace h : (match op3B o ast with
    | some (y, z, u) => okE G.nm cs N sc a y && okE G.nm cs N sc b z && okE G.nm cs N sc c u
    | none => false) = true := h
  split at h
  · rename_i y z u hy
    obtain ⟨h, h3⟩ := and_t h
    obtain ⟨h1, h2⟩ := and_t h
    subst hsc
    unfold op3B at hy
    split at hy
    · split at hy
      · rename_i x' a' ap y' z' q1 q2
        split at hy
        · rename_i cc
          cases hy
          obtain ⟨rfl, cl⟩ := cc
          cases attr1_ok q1
          obtain ⟨rfl, rfl⟩ := only2_ok q2
          cases o
          case idx3 =>
            have M := m2_ok (m := op3N .idx3) h1 h2 h3 cl
            have s1 := okE_star h2 [u] X.env
            have s2 := okE_star h3 [] X.env
            refine PE.weak (pe_bm PySem.F.plainAttrs_list PySem.F.slot_list_index PySem.F.type_list_index (mt_indexF (u65 xo.room)) (ha _ _ X XW fnB h1 xo rfl) (pa_cons (hb _ _ X XW fnB h2 xo rfl) (pa_cons (hc _ _ X XW fnB h3 xo rfl) pa_nil s2) s1) M.base M.few cl s1 (by rw [s2]; rfl)) fun σ H Q q => ?_
            obtain ⟨w, w0, env, rfl, ok, en, q⟩ := q
            refine ⟨w, w0, env, rfl, ok, en, q.bind.imp fun r w1 ⟨e1, ok1, h1⟩ v rv => ?_⟩
            cases hl : op3L w1.st .idx3 (fz r) with
            | false => rw [hl] at h1; exact (h1 : False).elim
            | true =>
              rw [hl] at h1
              obtain ⟨l, hl⟩ := Option.isSome_iff_exists.mp (show (lstOf w1.st (fz r)).isSome = true from hl)
              obtain ⟨p, vs, rfl, h5, h6⟩ := lstOf_ok ok1 hl rv.rc
              refine ⟨.inl ⟨rfl, _, SqL.of h5⟩, w1, w0, env, rfl, ok1, en.ext ok e1, (Sat.bind h1).imp fun r' w2 ⟨e2, ok2, h3⟩ u ru => ⟨w2, w0, env, rfl, ok2, en.ext ok (e1.trans e2), (Sat.bind h3).imp fun r3 w3 ⟨e3, ok3, h4⟩ t rt => ?_⟩⟩
              obtain ⟨r4, hr, h5⟩ := ans_of (e1.trans (e2.trans e3)) h4
              have hr : idx3R w3.st (fz r) (fz r') r3 = some r4 := hr
              cases r3 with
              | v a3 =>
                cases a3 with
                | int i =>
                  have hr : (if decide (0 ≤ i) then (match dat w3.st (fz r), dat w3.st (fz r') with
                    | some (.list ds), some d => if SeqAt.shaped d && SeqAt.shaped (.list ds) then (idxD d (ds.drop i.toNat)).map fun (j : Nat) => R.v (.int ((i.toNat + j : Nat) : Int)) else none
                    | _, _ => none) else none) = some r4 := hr
                  split at hr
                  · rename_i ci
                    have ci := of_decide_eq_true ci
                    have rt2 : RW X.K w3 (.int i) t := rt
                    cases rt2
                    split at hr
                    · rename_i ds dd q1 q2
                      split at hr
                      · rename_i c
                        obtain ⟨c1, c2⟩ := and_t c
                        obtain ⟨j, hj, rfl⟩ := Option.map_eq_some_iff.mp hr
                        obtain ⟨z, z1, z2, z3⟩ := idxD_ok hj
                        have d1 := dat_dp ok3 q1 (rv.rcx e1 ok1 (e2.trans e3))
                        have d2 := dat_dp ok3 q2 (ru.rcx e2 ok2 e3)
                        have ei : i = ((i.toNat : Nat) : Int) := by omega
                        refine ⟨_, _, dd, ds, i.toNat, i.toNat + j, z, rfl, by rw [← ei], d1, d2, c2, c1, by omega, by rw [← List.getElem?_drop]; exact z1, z2, fun m z' m1 m2 m3 => z3 (m - i.toNat) z' (by omega) ?_, h5.val ok3 (.int _)⟩
                        rw [List.getElem?_drop, show i.toNat + (m - i.toNat) = m by omega]
                        exact m3
                      · cases hr
                    · cases hr
                  · cases hr
                | _ => exact nomatch (show (none : Option R) = some r4 from hr)
              | _ => exact nomatch (show (none : Option R) = some r4 from hr)
          have hu : X.A.units + 1 < cLine := by have := u65 xo.room; omega
          refine PE.weak (pe_dget2 hu (ha _ _ X XW fnB h1 xo rfl) (hb _ _ X XW fnB h2 xo rfl) (hc _ _ X XW fnB h3 xo rfl) (m2_ok h1 h2 h3 cl)) fun σ H Q q => ?_
          obtain ⟨w, w0, env, rfl, ok, en, q⟩ := q
          refine ⟨w, w0, env, rfl, ok, en, q.bind.imp fun r w1 ⟨e1, ok1, h1⟩ v rv => ?_⟩
          cases hl : op3L w1.st .dget2 (fz r) with
          | false => rw [hl] at h1; exact (h1 : False).elim
          | true =>
            rw [hl] at h1
            have hl : isDic w1.st (fz r) = true := hl
            unfold isDic at hl
            have isd : ∃ p, v = .ref p ∧ IsD w1.H p := by
              split at hl
              · cases hl
              · rename_i ct hct ne
                obtain ⟨p, rfl, us, g1, _⟩ := ctOf_ok ok1 ne rv.rc
                refine ⟨p, rfl, ?_⟩
                cases ct with
                | lst l => exact (hct l rfl).elim
                | dic ks l => exact .inl ⟨_, .inl g1⟩
                | dit ks l => exact .inr ⟨_, .inl g1⟩
              · cases hl
            obtain ⟨p, rfl, isd⟩ := isd
            refine ⟨p, rfl, isd, w1, w0, env, rfl, ok1, en.ext ok e1, (Sat.bind h1).imp fun r' w2 ⟨e2, ok2, h3⟩ u ru => ⟨w2, w0, env, rfl, ok2, en.ext ok (e1.trans e2), (Sat.bind h3).imp fun r3 w3 ⟨e3, ok3, h4⟩ t rt => ?_⟩⟩
            obtain ⟨r4, hr, h5⟩ := ans_of (e1.trans (e2.trans e3)) h4
            have hr : get2R w3.st (fz r) (fz r') r3 = some r4 := hr
            unfold get2R at hr
            split at hr
            · obtain ⟨oo, q5, rfl⟩ := Option.map_eq_some_iff.mp hr
              have rt2 : RW X.K w3 _ t := rt
              obtain ⟨a2, ea, _, ⟨rfl, g1⟩ | ⟨b', z', rfl, g1, g2⟩⟩ := dget_ok ok3 q5 (rv.rcx e1 ok1 (e2.trans e3)) (ru.rcx e2 ok2 e3)
              · cases ea
                exact ⟨_, g1, h5.val ok3 rt2⟩
              · cases ea
                exact ⟨_, g1, h5.val ok3 g2⟩
            · cases hr
        · cases hy
      · cases hy
    · cases hy
  · cases h
theorem strs_ra {K : PySem.W.Frag} {ro fb : List Addr} {H : Hp} : ∀ l : List Str, RAs K ro fb H (l.map .str) (l.map V.str)
  | [] => .nil
  | z :: l => .cons (.str z) (strs_ra l)
theorem good_glt (x : Str) (l : List Str) : GoodE G C cs N k (.glt x l) := by
  intro sc ast X XW fnB h xo hsc
  cases ast with
  | Name y p =>
    replace h : (decide (x = y) && gloB sc y && decide (cs.t.lookup x = some l)) = true := h
    obtain ⟨h, h3⟩ := and_t h
    obtain ⟨h1, h2⟩ := and_t h
    have h1 := of_decide_eq_true h1
    have h3 := of_decide_eq_true h3
    subst h1 hsc
    obtain ⟨g1, g2, g3⟩ := gloB_ok h2
    obtain ⟨a, ma, ht⟩ := xo.tps x l h3
    refine PE.weak (pe_glob (v := .ref a) g1 ma rfl g2) fun σ H Q q => ?_
    obtain ⟨w, w0, env, rfl, ok, en, q⟩ := q
    refine (q.here rfl ok) _ (.tup (ht w.H) ?_)
    exact strs_ra l
  | _ => cases (show false = true from h)
theorem emptyD_ok {x : Expr} (h : emptyD x = true) : ∃ p, x = .Dict [] [] p := by
  unfold emptyD at h
  split at h
  · exact ⟨_, rfl⟩
  · cases h
theorem good_dnew (t : Bool) : GoodE G C cs N k (.dnew t) := by
  intro sc ast X XW fnB h xo hsc
  obtain ⟨p, rfl⟩ := emptyD_ok h
  cases t with
  | false =>
    refine PE.weak pe_dnewK fun σ H Q q => ?_
    obtain ⟨w, w0, env, rfl, ok, en, q⟩ := q
    intro a ha
    exact q ⟨w.ro, a :: w.fb, w.st, upd w.H a (.dK [])⟩ rfl (Ext.laidF ha) (ok.laidF ha) _ (res_ct (c := .dic [] []) (vs := []) ok ha rfl .nil)
  | true =>
    refine PE.weak pe_dnewT fun σ H Q q => ?_
    obtain ⟨w, w0, env, rfl, ok, en, q⟩ := q
    intro a ha
    exact q ⟨w.ro, a :: w.fb, w.st, upd w.H a (.dT [])⟩ rfl (Ext.laidF ha) (ok.laidF ha) _ (res_ct (c := .dit [] []) (vs := []) ok ha rfl .nil)
theorem good_new {a : E F} (ha : GoodE G C cs N k a) : GoodE G C cs N k (.new a) := by
  intro sc ast X XW fnB h xo hsc
  obtain ⟨_, h⟩ := and_t (show (plainE ast && okE G.nm cs N sc a ast) = true from h)
  refine PE.weak (ha sc ast X XW fnB h xo hsc) fun σ H Q q => ?_
  obtain ⟨w, w0, env, rfl, ok, en, q⟩ := q
  refine ⟨w, w0, env, rfl, ok, en, (Sat.bindB (Ext.refl w) q).imp fun r w1 ⟨e1, ok1, h1⟩ v rv => ?_⟩
  cases r with
  | tl c =>
    obtain ⟨a, rfl, z1, z3, z4, z5⟩ := rv
    exact h1 (w1.al a (.ct c)) rfl (al_ext e1 z5) (al_ok ok1 z1 z3 z4) _ (.loc (al_at ok1))
  | _ => exact (h1 : False).elim
theorem ggetB_ok {sc : Scope} {x y z : Expr} {g : Str} (h : ggetB sc x = some (g, y, z)) : ∃ p ap cp, x = .Call (.Attribute (.Name g p) "get" ap) [y, z] [] cp ∧ gloB sc g = true ∧ (ap.endLine == cp.line) = true := by
  unfold ggetB at h
  split at h
  · split at h
    · rename_i p a ap y' z' q1 q2
      split at h
      · rename_i c
        cases h
        obtain ⟨rfl, c1, c2⟩ := c
        cases attr1_ok q1
        obtain ⟨rfl, rfl⟩ := only2_ok q2
        exact ⟨_, _, _, rfl, c1, c2⟩
      · cases h
    · cases h
  · cases h
theorem good_gget (g : Str) (t : List (Str × Int)) {b c : E F} (hb : GoodE G C cs N k b) (hc : GoodE G C cs N k c) : GoodE G C cs N k (.gget g t b c) := by
  intro sc ast X XW fnB h xo hsc
  replace h : (match ggetB sc ast with
    | some (h, y, z) => decide (h = g) && decide (cs.d.lookup g = some t) && okE G.nm cs N sc b y && okE G.nm cs N sc c z
    | none => false) = true := h
  split at h
  · rename_i g' y z hy
    obtain ⟨h, h4⟩ := and_t h
    obtain ⟨h, h3⟩ := and_t h
    obtain ⟨h1, h2⟩ := and_t h
    have h1 := of_decide_eq_true h1
    have h2 := of_decide_eq_true h2
    subst h1 hsc
    obtain ⟨p, ap, cp, rfl, c1, c2⟩ := ggetB_ok hy
    obtain ⟨g1, g2, g3⟩ := gloB_ok c1
    obtain ⟨a, ma, es, n, D, hD⟩ := xo.dts _ _ h2
    have s1 := okE_star h3 [z] X.env
    have s2 := okE_star h4 [] X.env
    refine PE.weak (pe_gget (pe_glob (v := .ref a) g1 ma rfl g2) (hb _ _ X XW fnB h3 xo rfl) (hc _ _ X XW fnB h4 xo rfl) ⟨rfl, by rw [s1, s2]; rfl, c2, by rw [s1, s2]; rfl⟩) fun σ H Q q => ?_
    obtain ⟨w, w0, env, rfl, ok, en, q⟩ := q
    refine ⟨a, es, n, rfl, D, w, w0, env, rfl, ok, en, q.bind.imp fun r w1 ⟨e1, ok1, h1⟩ v rv => ⟨w1, w0, env, rfl, ok1, en.ext ok e1, (Sat.bind h1).imp fun r' w2 ⟨e2, ok2, h2⟩ u ru => ?_⟩⟩
    obtain ⟨r3, hr, h3⟩ := ans_of (e1.trans e2) h2
    unfold ggetR at hr
    split at hr
    · rename_i kk d e4 e5
      cases hr
      have q1 := rv.rcx e1 ok1 e2
      have q2 := ru.rcx e2 ok2 (Ext.refl w2)
      rw [e4] at q1
      rw [e5] at q2
      have := q1.str; have := q2.int; subst_vars
      obtain ⟨r, n1, n2, n3⟩ := hD kk
      refine ⟨kk, r, .int ((t.lookup kk).getD d), rfl, n1, fun u ru => ?_, h3.val ok2 (.int _)⟩
      cases ht : t.lookup kk with
      | none => rw [n2 ht]; exact ru
      | some i =>
        obtain ⟨tok, e⟩ := n3 i ht
        rw [e]
        exact ⟨tok, rfl⟩
    · cases hr
  · cases h
theorem rgcB_ok {t : Bool} {n : Nat} {sc : Scope} {x : Expr} {ys : List Expr} (h : rgcB t n sc x = some ys) : ∃ p p1 pos pos1, x = .Call (.Name (ltN t) p1) [.Call (.Name "range" p) ys [] pos] [] pos1 ∧ gloB sc (ltN t) = true ∧ gloB sc "range" = true ∧ ys.length = n ∧ 1 ≤ n ∧ n ≤ 3 := by
  unfold rgcB at h
  split at h
  · split at h
    · rename_i g r ys' pos q1 q2
      split at h
      · rename_i c
        cases h
        obtain ⟨c1, c2, c3, c4, c5, c6, c7⟩ := c
        obtain ⟨p, rfl⟩ := nmOf_ok q1
        obtain ⟨x', q2, q3⟩ := Option.bind_eq_some_iff.mp q2
        obtain ⟨rfl, rfl⟩ := only1_ok q2
        have e : x' = .Call r ys [] pos := by
          unfold call0 at q3
          split at q3
          · cases q3; rfl
          · cases q3
        subst e
        obtain ⟨p2, rfl⟩ := nmOf_ok c3
        subst c1
        exact ⟨_, _, _, _, rfl, c2, c4, c5, c6, c7⟩
      · cases h
    · cases h
  · cases h
theorem RAs.rg {K : PySem.W.Frag} {ro fb : List Addr} {H : Hp} (a c : Int) (n : Nat) : RAs K ro fb H ((List.range n).map fun (k : Nat) => .int (a + k * c)) (rgVC a c n) := by
  unfold rgVC
  generalize List.range n = l
  induction l with
  | nil => exact .nil
  | cons x l ih => exact .cons (.int _) ih
theorem rng_ok {K : PySem.W.Frag} {w : Wd} {n : Nat} {rs : List R} {l : List AV} {vs : List V} (e : rngR n rs = some l) (hl : l.length ≤ sizeLine) (h : Paired (fun r v => RC K w r v) rs vs) : ∃ (i j c : Int) (m : Nat), l = (List.range m).map (fun (k : Nat) => .int (i + k * c)) ∧
    ((vs = [.int j] ∧ i = 0 ∧ c = 1) ∨ (vs = [.int i, .int j] ∧ c = 1) ∨ vs = [.int i, .int j, .int c]) ∧ c ≠ 0 ∧ c.natAbs < 1073741824 ∧ Builtin.Range.small i j c = true ∧ Builtin.Range.rangeSize i j c = m ∧ m ≤ 2 ^ 24 := by
  have one : ∀ a b : Int, smallI a = true → smallI b = true → rngL a b = l → l = (List.range (b - a).toNat).map (fun (k : Nat) => .int (a + k * 1)) ∧ Builtin.Range.small a b 1 = true ∧ Builtin.Range.rangeSize a b 1 = ((b - a).toNat : Nat) ∧ (b - a).toNat ≤ 2 ^ 24 := fun a b ha hb e => by
    have ha : -(2 ^ 62) ≤ a ∧ a < 2 ^ 62 := by unfold smallI at ha; simpa using ha
    have hb : -(2 ^ 62) ≤ b ∧ b < 2 ^ 62 := by unfold smallI at hb; simpa using hb
    subst e
    refine ⟨by unfold rngL; simp, small_one ha.1 ha.2 hb.1 hb.2, rangeSize_nat a b, ?_⟩
    unfold rngL at hl
    rw [List.length_map, List.length_range, sizeLine_eq] at hl
    omega
  unfold rngR at e
  split at e
  · split at e
    · rename_i j c
      obtain ⟨v, rfl, r1⟩ := pair1 h
      have := r1.int; subst this
      obtain ⟨g1, g2, g3, g4⟩ := one 0 j rfl c (Option.some.inj e)
      exact ⟨0, j, 1, _, g1, .inl ⟨rfl, rfl, rfl⟩, by decide, by decide, g2, g3, g4⟩
    · cases e
  · split at e
    · rename_i i j c
      obtain ⟨c1, c2⟩ := and_t c
      obtain ⟨v, u, rfl, r1, r2⟩ := pair2 h
      have := r1.int; have := r2.int; subst_vars
      obtain ⟨g1, g2, g3, g4⟩ := one i j c1 c2 (Option.some.inj e)
      exact ⟨i, j, 1, _, g1, .inr (.inl ⟨rfl, rfl⟩), by decide, by decide, g2, g3, g4⟩
    · cases e
  · split at e
    · rename_i i j c cc
      obtain ⟨cc, c4⟩ := and_t cc
      obtain ⟨cc, c3⟩ := and_t cc
      obtain ⟨c1, c2⟩ := and_t cc
      cases h with
      | cons r1 h =>
        obtain ⟨v, u, rfl, r2, r3⟩ := pair2 h
        have := r1.int; have := r2.int; have := r3.int; subst_vars
        cases e
        rw [List.length_map, List.length_range, sizeLine_eq] at hl
        exact ⟨i, j, c, _, rfl, .inr (.inr rfl), of_decide_eq_true c1, of_decide_eq_true c2, c3, (Int.toNat_of_nonneg (of_decide_eq_true c4)).symm, by omega⟩
    · cases e
  · cases e
theorem good_rgc (t : Bool) (n : Nat) {es : Es F} (hs : GoodEs G C cs N k es) : GoodE G C cs N k (.rgc t n es) := by
  intro sc ast X XW fnB h xo hsc
  replace h : (match rgcB t n sc ast with
    | some ys => okEs G.nm cs N sc es ys
    | none => false) = true := h
  split at h
  · rename_i ys hy
    subst hsc
    obtain ⟨p, p1, pos, pos1, rfl, c1, c2, c3, c4, c5⟩ := rgcB_ok hy
    match ys, h, c3 with
    | [], _, c3 => simp at c3; omega
    | y :: ys, h, c3 =>
      obtain ⟨s1, s2⟩ := star_of h X.env pos
      obtain ⟨g1, _, _⟩ := gloB_ok c2
      have hp := hs _ _ X XW fnB h xo rfl
      cases t with
      | false =>
        obtain ⟨g0, _, _⟩ := gloB_ok c1
        refine PE.weak (pe_rgL xo.hc g0 (xo.blt _ (by decide +kernel)) g1 (xo.blt _ (by decide +kernel)) hp s1 s2) fun σ H Q q => ?_
        obtain ⟨w, w0, env, rfl, ok, en, q⟩ := q
        refine ⟨w, w0, env, rfl, ok, en, q.bind.imp fun rs w1 ⟨e1, ok1, h1⟩ vs rr => ?_⟩
        obtain ⟨r, hr, h2⟩ := ans_of e1 h1
        obtain ⟨l, hl, q2⟩ := Option.bind_eq_some_iff.mp hr
        split at q2
        · rename_i hz
          cases q2
          obtain ⟨i, j, c, m, rfl, k1, k2, k3, k4, k5, k6⟩ := rng_ok hl hz (pimp rr fun a b z => rc_of_rr z)
          exact ⟨i, j, c, m, k1, k2, k3, k4, k5, k6, fun a ha => h2.lst ok1 (RAs.rg i c m) ha⟩
        · cases q2
      | true =>
        obtain ⟨g0, _, _⟩ := gloB_ok c1
        refine PE.weak (pe_rgT xo.hc g0 (xo.blt _ (by decide +kernel)) g1 (xo.blt _ (by decide +kernel)) hp s1 s2) fun σ H Q q => ?_
        obtain ⟨w, w0, env, rfl, ok, en, q⟩ := q
        refine ⟨w, w0, env, rfl, ok, en, q.bind.imp fun rs w1 ⟨e1, ok1, h1⟩ vs rr => ?_⟩
        obtain ⟨r, hr, h2⟩ := ans_of e1 h1
        obtain ⟨l, hl, q2⟩ := Option.bind_eq_some_iff.mp hr
        split at q2
        · rename_i hz
          cases q2
          obtain ⟨i, j, c, m, rfl, k1, k2, k3, k4, k5, k6⟩ := rng_ok hl hz (pimp rr fun a b z => rc_of_rr z)
          exact ⟨i, j, c, m, k1, k2, k3, k4, k5, k6, fun a ha => h2.tup ok1 (RAs.rg i c m) ha⟩
        · cases q2
  · cases h
theorem popB_ok {x y z : Expr} (h : popB x = some (y, z)) : ∃ ap cp, x = .Call (.Attribute y "pop" ap) [z] [] cp ∧ (ap.endLine == cp.line) = true := by
  unfold popB at h
  split at h
  · split at h
    · rename_i x' a ap y' q1 q2
      split at h
      · rename_i c
        cases h
        obtain ⟨rfl, c2⟩ := c
        cases attr1_ok q1
        obtain ⟨rfl, rfl⟩ := only1_ok q2
        exact ⟨_, _, rfl, c2⟩
      · cases h
    · cases h
  · cases h
theorem RAs.erase {K : PySem.W.Frag} {ro fb : List Addr} {H : Hp} : ∀ {l : List AV} {vs : List V} (i : Nat), RAs K ro fb H l vs → RAs K ro fb H (l.eraseIdx i) (vs.eraseIdx i)
  | _, _, _, .nil => .nil
  | _, _, 0, .cons _ t => t
  | _, _, i + 1, .cons q t => .cons q (RAs.erase i t)
theorem popR_ok {s : Sto} {x y : R} {pr : AV × Sto} (h : popR s x y = some pr) : ∃ n i l kk b, x = .v (.loc n) ∧ y = .v (.int i) ∧ s.ob[n]? = some (.ct (.lst l)) ∧ -(2 ^ 63) ≤ i ∧ i < 2 ^ 63 ∧ seqIndex? i l.length = some kk ∧ l[kk]? = some b ∧ pr = (b, { s with ob := s.ob.set n (.ct (.lst (l.eraseIdx kk))) }) := by
  unfold popR at h
  split at h
  · split at h
    · cases h
    · split at h
      · rename_i l hn
        split at h
        · rename_i cc
          obtain ⟨c1, c2⟩ := and_t cc
          obtain ⟨kk, hk, h⟩ := Option.bind_eq_some_iff.mp h
          obtain ⟨b, hb, rfl⟩ := Option.map_eq_some_iff.mp h
          exact ⟨_, _, l, kk, b, rfl, rfl, hn, of_decide_eq_true c1, of_decide_eq_true c2, hk, hb, rfl⟩
        · cases h
      · cases h
  · cases h
theorem good_popL {a b : E F} (ha : GoodE G C cs N k a) (hb : GoodE G C cs N k b) : GoodE G C cs N k (.popL a b) := by
  intro sc ast X XW fnB h xo hsc
  replace h : (match popB ast with
    | some (y, z) => okE G.nm cs N sc a y && okE G.nm cs N sc b z
    | none => false) = true := h
  split at h
  · rename_i y z hy
    obtain ⟨h1, h2⟩ := and_t h
    subst hsc
    obtain ⟨ap, cp, rfl, c⟩ := popB_ok hy
    have hs := okE_star h2 [] X.env
    refine PE.weak (pe_bm PySem.F.plainAttrs_list PySem.F.slot_list_pop PySem.F.type_list_pop mt_popAt (ha _ _ X XW fnB h1 xo rfl) (pa_cons (hb _ _ X XW fnB h2 xo rfl) pa_nil hs) (callE_no' h1 _ _) (few1' hs) c hs rfl) fun σ H Q q => ?_
    obtain ⟨w, w0, env, rfl, ok, en, q⟩ := q
    refine ⟨w, w0, env, rfl, ok, en, (Sat.bindB (Ext.refl w) q).imp fun r w1 ⟨e1, ok1, h1⟩ v rv => ?_⟩
    cases hl : (lstOf w1.st r).isSome with
    | false => rw [hl] at h1; exact (h1 : False).elim
    | true =>
      rw [hl] at h1
      obtain ⟨l, hl⟩ := Option.isSome_iff_exists.mp hl
      obtain ⟨p, vs, rfl, g1, g2⟩ := lstOf_ok ok1 hl (rc_of_rr rv)
      refine ⟨.inl ⟨rfl, _, SqL.of g1⟩, w1, w0, env, rfl, ok1, en.ext ok e1, (Sat.bindB e1 h1).imp fun r' w2 ⟨e2, ok2, h2⟩ u ru => ?_⟩
      cases hp : popR w2.st r r' with
      | none => rw [hp] at h2; exact (h2 : False).elim
      | some pr =>
        rw [hp] at h2
        obtain ⟨n, i, l', kk, b, rfl, rfl, hn, c1, c2, hk, hb, rfl⟩ := popR_ok hp
        have rv2 : RW X.K w2 (.loc n) (.ref p) := RA.ext ok1 e2 rv
        obtain ⟨p', e3, h4, us, z1, _, z2⟩ := loc_ct ok2 rv2 hn
        cases e3
        have z2 : RWs X.K w2 l' us := z2
        have ru : RW X.K w2 (.int i) u := ru
        cases ru
        obtain ⟨y, y1, y2⟩ := z2.get hb
        have hf : p ∈ w2.fb := ok2.sub p (List.mem_of_getElem? h4)
        refine ⟨p, us, i, kk, y, rfl, rfl, z1, c1, c2, by rw [← z2.length]; exact hk, y1, ?_⟩
        exact h2 (w2.wr n p (.lst (us.eraseIdx kk)) (.ct (.lst (l'.eraseIdx kk)))) rfl (wr_ext (e1.trans e2) h4 z1 trivial) (wr_ok ok2 hn h4 z1 trivial ⟨_, upd_same, trivial, wr_ras z1 trivial hf (z2.erase kk)⟩) y (wr_ra z1 trivial hf y2)
  · cases h
theorem good_no {e : E F} (h : tst e = false) : GoodT G C cs N k e := fun t => by rw [h] at t; cases t
theorem goodT_op2 (o : Op2) {a b : E F} (ha : GoodE G C cs N k a) (hb : GoodE G C cs N k b) : GoodT G C cs N k (.op2 o a b) := by
  intro t sc ast X XW fnB h xo hsc
  replace h : (match op2B o sc ast with
    | some (y, z) => okE G.nm cs N sc a y && okE G.nm cs N sc b z
    | none => false) = true := h
  split at h
  · rename_i y z hy
    obtain ⟨h1, h2⟩ := and_t h
    subst hsc
    have hu : X.A.units + 1 < cLine := by have := u65 xo.room; omega
    unfold op2B at hy
    split at hy
    · split at hy
      · rename_i c
        subst c
        cases t
      · cases hy
    · split at hy
      · rename_i q y' hc
        obtain ⟨rfl, rfl⟩ := cmp1_ok hc
        split at hy
        · rename_i c
          cases hy
          rcases c with ⟨rfl, rfl⟩ | ⟨rfl, rfl⟩
          · refine PT.weak (pt_cmp (pc_din hu (ha _ _ X XW fnB h1 xo rfl) (hb _ _ X XW fnB h2 xo rfl)) (okE_mark h2 _)) (tstP fun σ H Q q => ?_)
            obtain ⟨w, w0, env, rfl, ok, en, q⟩ := q
            refine ⟨w, w0, env, rfl, ok, en, q.bind.imp fun r w1 ⟨e1, ok1, h1⟩ v rv => ⟨w1, w0, env, rfl, ok1, en.ext ok e1, (Sat.bind h1).imp fun r' w2 ⟨e2, ok2, h3⟩ u ru => ?_⟩⟩
            obtain ⟨r2, hr, h4⟩ := ans_of (e1.trans e2) h3
            obtain ⟨o, q1, rfl⟩ := Option.map_eq_some_iff.mp (show (dgetR w2.st (fz r') (fz r)).map (fun o => R.v (.bl o.isSome)) = some r2 from hr)
            obtain ⟨a, rfl, _, ⟨rfl, h1⟩ | ⟨b', z, rfl, h1, h2⟩⟩ := dget_ok ok2 q1 ru.rc (rv.rcx e1 ok1 e2)
            · exact ⟨a, _, rfl, h1, h4.val ok2 (.bl _)⟩
            · exact ⟨a, _, rfl, h1, h4.val ok2 (.bl _)⟩
          · refine PT.weak (pt_cmp (pc_dnotin hu (ha _ _ X XW fnB h1 xo rfl) (hb _ _ X XW fnB h2 xo rfl)) (okE_mark h2 _)) (tstP fun σ H Q q => ?_)
            obtain ⟨w, w0, env, rfl, ok, en, q⟩ := q
            refine ⟨w, w0, env, rfl, ok, en, q.bind.imp fun r w1 ⟨e1, ok1, h1⟩ v rv => ⟨w1, w0, env, rfl, ok1, en.ext ok e1, (Sat.bind h1).imp fun r' w2 ⟨e2, ok2, h3⟩ u ru => ?_⟩⟩
            obtain ⟨r2, hr, h4⟩ := ans_of (e1.trans e2) h3
            obtain ⟨o, q1, rfl⟩ := Option.map_eq_some_iff.mp (show (dgetR w2.st (fz r') (fz r)).map (fun o => R.v (.bl !o.isSome)) = some r2 from hr)
            obtain ⟨a, rfl, _, ⟨rfl, h1⟩ | ⟨b', z, rfl, h1, h2⟩⟩ := dget_ok ok2 q1 ru.rc (rv.rcx e1 ok1 e2)
            · exact ⟨a, _, rfl, h1, h4.val ok2 (.bl _)⟩
            · exact ⟨a, _, rfl, h1, h4.val ok2 (.bl _)⟩
        · cases hy
      · cases hy
    · split at hy
      · split at hy
        · rename_i c
          obtain ⟨rfl, _⟩ := c
          cases t
        · cases hy
      · split at hy
        · rename_i c
          subst c
          cases t
        · cases hy
      · cases hy
    · cases hy
  · cases h
theorem good_it0 {it : It F} (h0 : ∀ (nm : F → Option Str) (cs : Cn) (N : List Str) (sc : Scope) (ast : Expr), okI nm cs N sc it ast = false) : GoodI G C cs N k it := by
  intro sc tg ast X XW fnB h
  rw [h0] at h
  cases h
end
end EV

set_option maxRecDepth 100000
set_option maxHeartbeats 2000000
namespace EV
open PySem PySem.Spec PyProof.Rows L2 RT RZ
section
variable {F : Type} {G : Glo F} {C : Cf F} {cs : Cn} {N : List Str} {k : Nat}
/-! ### targets -/
def gNames : List Nat → TGs
  | [] => gNil
  | i :: is => gCons (gName i) (gNames is)
def gT (K : PySem.W.Frag) : Tg → TG
  | .nm i => gName i
  | .tp is => gTup K is.length (gNames is)
theorem locB_ok {fnB : Bool} {sc : Scope} {x : Str} (h : locB fnB sc x = true) : Loc sc x ∧ (fnB = true ∨ sc.names.lookup x = some .local) := by
  unfold locB at h
  split at h
  · exact ⟨.inl (by assumption), .inr (by assumption)⟩
  · exact ⟨.inr (by assumption), .inl h⟩
  · cases h
theorem name_ok {X : Cx} {XW : XK} {fnB : Bool} {i : Nat} {tg : Expr} (xo : XOk G C cs N k X XW fnB) (h : nameB N fnB X.env.scope i tg = true) : ∃ x p, tg = .Name x p ∧ X.N[i]? = some x ∧ Loc X.env.scope x ∧ (X.fn x = true ∨ X.env.scope.names.lookup x = some .local) := by
  cases tg with
  | Name x p =>
    obtain ⟨h1, h2⟩ := and_t (show (decide (N[i]? = some x) && locB fnB X.env.scope x) = true from h)
    obtain ⟨h3, h4⟩ := locB_ok h2
    refine ⟨x, p, rfl, by rw [xo.hN]; exact of_decide_eq_true h1, h3, ?_⟩
    rcases h4 with h4 | h4
    · exact .inl (xo.fnb h4 x)
    · exact .inr h4
  | _ => cases (show false = true from h)
theorem name_pg {X : Cx} {XW : XK} {fnB : Bool} {i : Nat} {tg : Expr} (xo : XOk G C cs N k X XW fnB) (h : nameB N fnB X.env.scope i tg = true) : PG X tg (gName i) := by
  obtain ⟨x, p, rfl, h1, h2, h3⟩ := name_ok xo h
  exact pg_name xo.nd h1 h2 h3
theorem names_pg {X : Cx} {XW : XK} {fnB : Bool} (xo : XOk G C cs N k X XW fnB) : ∀ {is : List Nat} {es : List Expr}, namesB N fnB X.env.scope is es = true → PGs X es (gNames is) ∧ (assignEach es X.env).length = is.length ∧ (assignEach es X.env).findIdx? (·.1) = none
  | [], [], _ => ⟨pgs_nil, rfl, rfl⟩
  | [], _ :: _, h => by cases (show false = true from h)
  | _ :: _, [], h => by cases (show false = true from h)
  | i :: is, e :: es, h => by
    obtain ⟨h1, h2⟩ := and_t (show (nameB N fnB X.env.scope i e && namesB N fnB X.env.scope is es) = true from h)
    obtain ⟨k1, k2, k3⟩ := names_pg xo h2
    obtain ⟨x, p, rfl, _⟩ := name_ok xo h1
    refine ⟨pgs_cons (name_pg xo h1) k1 rfl, ?_, ?_⟩
    · show ((false, assign (.Name x p) X.env) :: assignEach es X.env).length = _
      rw [List.length_cons, k2, List.length_cons]
    · show ((false, assign (.Name x p) X.env) :: assignEach es X.env).findIdx? (·.1) = none
      rw [List.findIdx?_cons, k3]
      rfl
theorem tg_pg {X : Cx} {XW : XK} {fnB : Bool} {t : Tg} {tg : Expr} (xo : XOk G C cs N k X XW fnB) (h : tgB N fnB X.env.scope t tg = true) : PG X tg (gT X.K t) := by
  cases t with
  | nm i => exact name_pg xo h
  | tp is =>
    cases tg with
    | Tuple es kk p =>
      obtain ⟨k1, k2, k3⟩ := names_pg (is := is) (es := es) xo h
      exact pg_tup xo.hc k1 k2 k3
    | _ => cases (show false = true from h)
end
section
variable {K : PySem.W.Frag} {w w0 : Wd} {env : Env} {σ : L2.St}
theorem REnv.set {a : AV} {v : V} (i : Nat) (h : REnv K w0 w env σ) (r : RW K w a v) : REnv K w0 w (env.set i (.v a)) (σ.set i (some v)) where
  len := by rw [List.length_set, List.length_set]; exact h.len
  val := fun j b q => by
    by_cases e : i = j
    · subst e
      by_cases z : i < env.length
      · rw [List.getElem?_set_self z] at q
        cases q
        exact ⟨v, by rw [List.getElem?_set_self (by rw [← h.len]; exact z)], r⟩
      · rw [List.getElem?_eq_none (by rw [List.length_set]; omega)] at q
        cases q
    · rw [List.getElem?_set_ne e] at q
      obtain ⟨u, h1, h2⟩ := h.val j b q
      exact ⟨u, by rw [List.getElem?_set_ne e]; exact h1, h2⟩
  own := fun j l q => by
    by_cases e : i = j
    · subst e
      by_cases z : i < env.length
      · rw [List.getElem?_set_self z] at q
        cases q
      · rw [List.getElem?_eq_none (by rw [List.length_set]; omega)] at q
        cases q
    · rw [List.getElem?_set_ne e] at q ⊢
      exact h.own j l q
  inj := fun j1 j2 l m b q1 q2 s1 s2 => by
    have ne : ∀ (j : Nat) l, (env.set i (.v a))[j]? = some (Sl.own l) → i ≠ j := fun j l q e => by
      subst e
      by_cases z : i < env.length
      · rw [List.getElem?_set_self z] at q
        cases q
      · rw [List.getElem?_eq_none (by rw [List.length_set]; omega)] at q
        cases q
    have n1 := ne j1 l q1
    have n2 := ne j2 m q2
    rw [List.getElem?_set_ne n1] at q1 s1
    rw [List.getElem?_set_ne n2] at q2 s2
    exact h.inj j1 j2 l m b q1 q2 s1 s2
theorem REnv.no {o : Option V} (i : Nat) (h : REnv K w0 w env σ) : REnv K w0 w (env.set i .no) (σ.set i o) where
  len := by rw [List.length_set, List.length_set]; exact h.len
  val := fun j b q => by
    by_cases e : i = j
    · subst e
      by_cases z : i < env.length
      · rw [List.getElem?_set_self z] at q
        cases q
      · rw [List.getElem?_eq_none (by rw [List.length_set]; omega)] at q
        cases q
    · rw [List.getElem?_set_ne e] at q
      obtain ⟨u, h1, h2⟩ := h.val j b q
      exact ⟨u, by rw [List.getElem?_set_ne e]; exact h1, h2⟩
  own := fun j l q => by
    by_cases e : i = j
    · subst e
      by_cases z : i < env.length
      · rw [List.getElem?_set_self z] at q
        cases q
      · rw [List.getElem?_eq_none (by rw [List.length_set]; omega)] at q
        cases q
    · rw [List.getElem?_set_ne e] at q ⊢
      exact h.own j l q
  inj := fun j1 j2 l m b q1 q2 s1 s2 => by
    have ne : ∀ (j : Nat) l, (env.set i .no)[j]? = some (Sl.own l) → i ≠ j := fun j l q e => by
      subst e
      by_cases z : i < env.length
      · rw [List.getElem?_set_self z] at q
        cases q
      · rw [List.getElem?_eq_none (by rw [List.length_set]; omega)] at q
        cases q
    have n1 := ne j1 l q1
    have n2 := ne j2 m q2
    rw [List.getElem?_set_ne n1] at q1 s1
    rw [List.getElem?_set_ne n2] at q2 s2
    exact h.inj j1 j2 l m b q1 q2 s1 s2
/-- the names of a target forgotten -/
def wipeN (env : Env) (is : List Nat) : Env := is.foldl (fun e i => e.set i .no) env
theorem wipe_set {σ : L2.St} {i : Nat} : ∀ {is : List Nat}, (wipe σ is).set i none = wipe (σ.set i none) is := by
  intro is
  induction is with
  | nil => rfl
  | cons j is ih =>
    show ((wipe σ is).set j none).set i none = (wipe (σ.set i none) is).set j none
    by_cases e : i = j
    · subst e
      rw [List.set_set]
      rw [← ih, List.set_set]
    · rw [List.set_comm _ _ (fun z => e z.symm), ih]
theorem wipeN_ok : ∀ (is : List Nat) {env : Env} {σ : L2.St}, REnv K w0 w env σ → REnv K w0 w (wipeN env is) (wipe σ is)
  | [], _, _, h => h
  | i :: is, env, σ, h => by
    have z := wipeN_ok is (h.no (o := none) i)
    show REnv K w0 w (wipeN (env.set i .no) is) ((wipe σ is).set i none)
    rw [wipe_set]
    exact z
theorem wipe_put {σ : L2.St} {o : Option V} {i : Nat} : ∀ {is : List Nat}, i ∈ is → wipe (σ.set i o) is = wipe σ is := by
  intro is hi
  induction is with
  | nil => cases hi
  | cons j is ih =>
    show (wipe (σ.set i o) is).set j none = (wipe σ is).set j none
    by_cases e : i = j
    · subst e
      have key : ∀ (is : List Nat) (σ : L2.St), (wipe (σ.set i o) is).set i none = (wipe σ is).set i none := by
        intro is
        induction is with
        | nil => intro σ; show (σ.set i o).set i none = σ.set i none; rw [List.set_set]
        | cons m is ih =>
          intro σ
          show ((wipe (σ.set i o) is).set m none).set i none = ((wipe σ is).set m none).set i none
          by_cases e : m = i
          · subst e
            rw [List.set_set, List.set_set]
            exact ih σ
          · rw [List.set_comm _ _ e, List.set_comm (l := wipe σ is) _ _ e, ih σ]
      exact key is σ
    · rcases List.mem_cons.mp hi with z | z
      · exact (e z).elim
      · rw [ih z]
theorem gNames_ok {all : List Nat} {Q : L2.St → Hp → Prop} : ∀ {is : List Nat} {l : List AV} {vs : List V} {env : Env} {σ : L2.St}, is.length = l.length → RWs K w l vs → (∀ i ∈ is, i ∈ all) → REnv K w0 w env σ →
    (∀ σ', REnv K w0 w ((is.zip l).foldl (fun e p => e.set p.1 (.v p.2)) env) σ' → wipe σ' all = wipe σ all → Q σ' w.H) → gNames is vs σ w.H Q
  | [], [], _, env, σ, _, .nil, _, h, q => ⟨rfl, q σ h rfl⟩
  | [], _ :: _, _, _, _, e, _, _, _, _ => by cases e
  | _ :: _, [], _, _, _, e, _, _, _, _ => by cases e
  | i :: is, a :: l, _, env, σ, e, .cons (v := v) (vs := vs) r t, hi, h, q => by
    refine ⟨v, vs, rfl, ?_⟩
    refine gNames_ok (Nat.succ.inj e) t (fun j hj => hi j (List.mem_cons_of_mem _ hj)) (h.set i r) fun σ' h' hw => q σ' h' ?_
    rw [hw]
    exact wipe_put (hi i List.mem_cons_self)
theorem gT_ok {t : Tg} {a : AV} {v : V} {env1 : Env} {Q : L2.St → Hp → Prop} (e : setT env t a = some env1) (h : REnv K w0 w env σ) (r : RW K w a v) (q : ∀ σ', REnv K w0 w env1 σ' → wipe σ' (slots t) = wipe σ (slots t) → Q σ' w.H) : gT K t v σ w.H Q := by
  cases t with
  | nm i =>
    cases e
    exact q _ (h.set i r) (wipe_put (List.mem_cons_self))
  | tp is =>
    cases a with
    | tup l =>
      have e : (if is.length = l.length then some ((is.zip l).foldl (fun e p => e.set p.1 (.v p.2)) env) else none) = some env1 := e
      split at e
      · rename_i c
        cases e
        cases r with
        | tup h1 h2 => exact ⟨_, _, rfl, h1, by rw [← h2.length]; exact c.symm, gNames_ok c h2 (fun _ hi => hi) h q⟩
      · cases e
    | _ => cases e
theorem wipeT_eq (t : Tg) : wipeT env t = wipeN env (slots t) := by cases t <;> rfl
end
/-! ### comprehensions -/
section
variable {F : Type} {G : Glo F} {C : Cf F} {cs : Cn} {N : List Str} {k : Nat}
theorem XOk.blk {X : Cx} {XW : XK} {fnB : Bool} (xo : XOk G C cs N k X XW fnB) (s : Shared) (H : Hp) (scope : Scope) (cenv : PySem.Env) (fp : List Addr) : XOk G C cs N k (X.blk s H scope cenv fp) (fun _ _ _ => False) false where
  hN := xo.hN
  hc := xo.hc
  nd := xo.nd
  room := xo.room
  tk := takes0
  fns := xo.fns
  mgf := xo.mgf
  kp := xo.kp
  bd := xo.bd
  len := xo.len
  blt := xo.blt
  cst := xo.cst
  dts := xo.dts
  tps := xo.tps
  fnb := fun z => by cases z
/-- a comprehension's tests -/
def tEvc (G : Glo F) (C : Cf F) (K : PySem.W.Frag) (XW : XK) (c : OE F) : TT := fun σ H Q => ∃ w w0 env, w.H = H ∧ WOK K w ∧ REnv K w0 w env σ ∧ Sat K w (evc C env c w.st) (fun b w' => Q b w'.H) (xq G XW)
def GoodC (G : Glo F) (C : Cf F) (cs : Cn) (N : List Str) (k : Nat) (c : OE F) : Prop := ∀ (sc : Scope) (ifs : List Expr) (X : Cx) (XW : XK) (fnB : Bool), okC G.nm cs N sc c ifs = true → XOk G C cs N k X XW fnB → X.env.scope = sc → PTs X ifs (tEvc G C X.K XW c)
theorem PTs.weak {X : Cx} {e : List Expr} {t t' : TT} (h : PTs X e t) (k : ∀ σ H Q, t' σ H Q → t σ H Q) : PTs X e t' := ⟨fun pins s σ H Q I q => h.run pins s σ H Q I (k σ H Q q)⟩
theorem good_cnone : GoodC G C cs N k .none := by
  intro sc ifs X XW fnB h xo hsc
  match ifs, h with
  | [], h =>
    refine PTs.weak pts_nil fun σ H Q q => ?_
    obtain ⟨w, w0, env, rfl, ok, en, q⟩ := q
    exact q.here rfl ok
  | _ :: _, h => cases (show false = true from h)
theorem good_csome {e : E F} (he : GoodT G C cs N k e) : GoodC G C cs N k (.some e) := by
  intro sc ifs X XW fnB h xo hsc
  match ifs, h with
  | [x], h =>
    obtain ⟨h1, h2⟩ := and_t (show (tst e && okE G.nm cs N sc e x) = true from h)
    refine PTs.weak (pts_one (he h1 sc x X XW fnB h2 xo hsc)) fun σ H Q q => ?_
    obtain ⟨w, w0, env, rfl, ok, en, q⟩ := q
    refine ⟨w, w0, env, rfl, ok, en, q.bind.imp fun r w1 ⟨e1, ok1, h1⟩ => ?_⟩
    obtain ⟨b, hb, h2⟩ := h1.of_ rfl ok1
    exact ⟨b, bl_of hb, h2⟩
  | [], h => cases (show false = true from h)
  | _ :: _ :: _, h => cases (show false = true from h)
theorem own_map (N : List Str) (t : Tg) : (ownOf N t).map (·.2) = slots t := by
  unfold ownOf
  rw [List.map_map]
  exact List.map_id _
/-- no exception: the answer, or stuck -/
theorem noX_sat {K : PySem.W.Frag} {α : Type} {w : Wd} {r : Rs α} {P : α → Wd → Prop} {Z : Str → List AV → Wd → Prop} (h : Sat K w (noX r) P Z) (Z' : Str → List AV → Wd → Prop) : Sat K w r P Z' := by
  cases r with
  | ok a s => exact h
  | exc c fs s => exact (h : False).elim
  | stuck => exact h
theorem noX_bind {K : PySem.W.Frag} {α β : Type} {w : Wd} {r : Rs α} {f : α → Sto → Rs β} {P : β → Wd → Prop} {Z : Str → List AV → Wd → Prop} (h : Sat K w ((noX r).bind f) P Z) (Z' : Str → List AV → Wd → Prop) :
    Sat K w r (fun a w' => Ext w w' ∧ WOK K w' ∧ ∀ w2, Ext w w2 → w2.st = w'.st → Sat K w2 (f a w2.st) P Z) Z' := noX_sat (Sat.bindF h) Z'
end
theorem Rs.bind_assoc {α β γ : Type} (r : Rs α) (f : α → Sto → Rs β) (g : β → Sto → Rs γ) : (r.bind f).bind g = r.bind fun a s => (f a s).bind g := by cases r <;> rfl
theorem wipe_wipe {σ : L2.St} (is : List Nat) : wipe (wipe σ is) is = wipe σ is := by
  have key : ∀ (js : List Nat) (σ : L2.St), (∀ j ∈ js, j ∈ is) → wipe (wipe σ js) is = wipe σ is := by
    intro js
    induction js with
    | nil => intro σ _; rfl
    | cons j js ih =>
      intro σ h
      show wipe ((wipe σ js).set j none) is = _
      rw [wipe_put (h j List.mem_cons_self)]
      exact ih σ fun k hk => h k (List.mem_cons_of_mem _ hk)
  exact key is σ fun _ h => h
section
variable {F : Type} {G : Glo F} {C : Cf F} {cs : Cn} {N : List Str} {k : Nat}
theorem okI_iter {nm : F → Option Str} {sc : Scope} {e : It F} {y : Expr} (h : okI nm cs N sc e y = true) (env : PySem.Env) (x : Value) : foldedSetIterable y env x = pure x := by
  cases y with
  | Set v p => cases e with
    | seq e => exact okE_iter (e := e) h env x
    | _ => cases (show false = true from h)
  | _ => rfl
/-- what a comprehension's rule asks -/
theorem lc_read {X : Cx} {XW : XK} {t : Tg} {it : It F} {c : OE F} {e : E F} : ∀ σ H Q, tEv G C X.K XW (.lc t it c e) σ H Q → tLc (tEvi G C X.K XW it) (gT X.K t) (tEvc G C X.K (fun _ _ _ => False) c) (tEv G C X.K (fun _ _ _ => False) e) ((ownOf N t).map (·.2)) σ H Q := fun σ H Q q => by
  obtain ⟨w, w0, env, rfl, ok, en, q⟩ := q
  refine ⟨w, w0, env, rfl, ok, en, q.bindF.imp fun l w1 ⟨e1, ok1, h1⟩ w2 ks J eS e2 ok2 kv wa => ?_⟩
  have q2 := h1 w2 e2 eS
  clear h1
  intro D hD
  obtain ⟨Gp, Y, wk, wG, wI⟩ := wa
  rw [own_map]
  generalize hf : (fun (x : AV) (s : Sto) => (Rs.of (setT (wipeT env t) t x) s).bind fun env1 s => noX ((evc C env1 c s).bind fun k s => match k with
    | false => Rs.ok none s
    | true => (ev C env1 e s).bind fun r s => (Rs.of (toA (fz r)) s).bind fun a s => Rs.ok (some a) s)) = f at q2
  refine lc_it wk (fun i H => ∃ wi acc vs, wi.H = H ∧ WOK X.K wi ∧ Ext w2 wi ∧ H D = some (.lst vs) ∧ RWs X.K wi acc vs ∧ D ∈ wi.fb ∧ D ∉ wi.ro ∧
    Sat X.K w2 ((lcL f acc (l.drop i) wi.st).bind fun l s => Rs.ok (R.tl (.lst l)) s) (fun r w' => ∀ v, RR X.K w w' r v → Q v w'.H) (xq G XW)) ?_ ?_ ?_ ?_
  · exact ⟨⟨w2.ro, D :: w2.fb, w2.st, upd w2.H D (.lst [])⟩, [], [], rfl, ok2.laidF hD, Ext.laidF hD, upd_same, .nil, List.mem_cons_self, noin ok2 hD, q2⟩
  · rintro i H hi ⟨wi, acc, vs, rfl, ok3, e3, _⟩
    exact wG wi ok3 (kv.ext ok2 e3)
  · rintro i x H H' hi ⟨wi, acc, vs, rfl, ok3, e3, hDv, ra, hDf, hDr, sat⟩ y
    obtain ⟨a, w3, ha, rfl, eS3, e4, ok4, rx⟩ := wI i x H' wi hi ok3 (kv.ext ok2 e3) y
    have hdrop : l.drop i = a :: l.drop (i + 1) := by
      obtain ⟨hlt, hget⟩ := List.getElem?_eq_some_iff.mp ha
      rw [List.drop_eq_getElem_cons hlt, hget]
    rw [hdrop] at sat
    replace sat : Sat X.K w2 (((f a wi.st).bind fun o s => match o with
      | some b => if acc.length < sizeLine then lcL f (acc ++ [b]) (l.drop (i + 1)) s else .stuck
      | none => lcL f acc (l.drop (i + 1)) s).bind fun l s => Rs.ok (R.tl (.lst l)) s) _ _ := sat
    have hfa : f a wi.st = (Rs.of (setT (wipeT env t) t a) wi.st).bind fun env1 s => noX ((evc C env1 c s).bind fun k s => match k with
      | false => Rs.ok none s
      | true => (ev C env1 e s).bind fun r s => (Rs.of (toA (fz r)) s).bind fun a s => Rs.ok (some a) s) := by rw [← hf]
    rw [Rs.bind_assoc, hfa] at sat
    replace sat : Sat X.K w2 (((Rs.of (setT (wipeT env t) t a) wi.st).bind fun env1 s => noX ((evc C env1 c s).bind fun k s => match k with
      | false => Rs.ok none s
      | true => (ev C env1 e s).bind fun r s => (Rs.of (toA (fz r)) s).bind fun a s => Rs.ok (some a) s)).bind _) _ _ := sat
    rw [Rs.bind_assoc] at sat
    cases hs : setT (wipeT env t) t a with
    | none => rw [hs] at sat; exact (sat : False).elim
    | some env1 =>
      rw [hs] at sat
      have e24 := e3.trans e4
      rw [← eS3] at sat
      have en3 : REnv X.K w0 w3 (wipeT env t) (wipe σ (slots t)) := by
        rw [wipeT_eq]
        exact wipeN_ok _ (en.ext ok (e2.trans e24))
      refine gT_ok hs en3 rx fun σ' en4 hw => ⟨by rw [hw, wipe_wipe], ?_⟩
      have s1 := noX_sat (Sat.bindB e24 sat) (xq G fun _ _ _ => False)
      refine ⟨w3, w0, env1, rfl, ok4, en4, s1.bind.imp fun b w4 ⟨e5, ok5, s2⟩ => ?_⟩
      have hD4 : w4.H D = some (.lst vs) := e5.keep _ _ (e4.keep _ _ hDv hDr) (e4.noro (by rw [hDv]; simp) hDr)
      cases b with
      | false =>
        refine iteF ?_
        obtain ⟨_, _, s3⟩ := s2.here rfl ok5
        exact ⟨w4, acc, vs, rfl, ok5, e24.trans e5, hD4, (ra.ext ok3 e4).ext ok4 e5, e5.fb _ (e4.fb _ hDf), e5.noro (by rw [e4.keep _ _ hDv hDr]; simp) (e4.noro (by rw [hDv]; simp) hDr), s3⟩
      | true =>
        refine iteT ?_
        refine ⟨w4, w0, env1, rfl, ok5, en4.ext ok4 e5, s2.bindF.imp fun r w5 ⟨e6, ok6, s3⟩ v rv => ?_⟩
        obtain ⟨w6, eH6, eS6, e7, ok7, rv7⟩ := freeze e6 ok6 rv ok5.dom
        have s4 := s3 w6 e7 eS6
        cases hb : toA (fz r) with
        | none => rw [hb] at s4; exact (s4 : False).elim
        | some b =>
          rw [hb] at s4
          obtain ⟨_, _, s5⟩ := s4 w6 rfl (Ext.refl w6) ok7
          replace s5 : Sat X.K w2 ((if acc.length < sizeLine then lcL f (acc ++ [b]) (l.drop (i + 1)) w6.st else Rs.stuck).bind fun l s => Rs.ok (R.tl (.lst l)) s) (fun r w' => ∀ v, RR X.K w w' r v → Q v w'.H) (xq G XW) := s5
          split at s5
          · rename_i hlen
            have e36 := e5.trans e7
            have hD6 : w6.H D = some (.lst vs) := e7.keep _ _ hD4 (e5.noro (by rw [e4.keep _ _ hDv hDr]; simp) (e4.noro (by rw [hDv]; simp) hDr))
            have hf6 : D ∈ w6.fb := e36.fb _ (e4.fb _ hDf)
            have hr6 : D ∉ w6.ro := e36.noro (by rw [e4.keep _ _ hDv hDr]; simp) (e4.noro (by rw [hDv]; simp) hDr)
            have ra6 := (ra.ext ok3 e4).ext ok4 e36
            rw [← eH6]
            exact ⟨vs, hD6, by rw [← ra.length]; exact hlen, w6.own D (.lst (vs ++ [v])), acc ++ [b], vs ++ [v], rfl, own_ok ok7 hD6 trivial hf6 hr6, own_ext (e24.trans e36) hD6 trivial hD, upd_same, (own_ras hD6 trivial hf6 ra6).append (.cons (own_ra hD6 trivial hf6 (toA_ok rv7 hb)) .nil), hf6, hr6, s5⟩
          · exact (s5 : False).elim
  · rintro H ⟨wi, acc, vs, rfl, ok3, e3, hDv, ra, hDf, hDr, sat⟩
    rw [List.drop_length] at sat
    exact sat wi rfl e3 ok3 _ ⟨D, rfl, ⟨vs, hDv, trivial, ra⟩, hDf, hDr, e2.dom _ hD⟩

theorem lc_parts {X : Cx} {XW : XK} {fnB : Bool} (t : Tg) {it : It F} {c : OE F} {e : E F} (hi : GoodI G C cs N k it) (hcc : GoodC G C cs N k c) (he : GoodE G C cs N k e) {elt : Expr} {gens : List Comprehension} {scope : Scope} {p : Pos} (h : okE G.nm cs N X.env.scope (.lc t it c e) (.ListComp elt gens scope p) = true) (xo : XOk G C cs N k X XW fnB) :
    ∃ tg iter ifs, gens = [⟨tg, iter, ifs, 0⟩] ∧ PI X tg iter (tEvi G C X.K XW it) ∧ BlkOk X.N X.env.scope scope (ownOf N t) ∧
      (∀ (s : Shared) (H : Hp) (Cc : Addr) (cl : List (Str × Addr)) (fp : List Addr), PG (X.blk s H scope (compEnvC scope cl Cc X.env) fp) tg (gT X.K t)) ∧
      (∀ (s : Shared) (H : Hp) (Cc : Addr) (cl : List (Str × Addr)) (fp : List Addr), PTs (X.blk s H scope (compEnvC scope cl Cc X.env) fp) ifs (tEvc G C X.K (fun _ _ _ => False) c)) ∧
      (∀ (s : Shared) (H : Hp) (Cc : Addr) (cl : List (Str × Addr)) (fp : List Addr), PE (X.blk s H scope (compEnvC scope cl Cc X.env) fp) elt (tEv G C X.K (fun _ _ _ => False) e)) ∧
      ∀ x, foldedSetIterable iter X.env x = pure x := by
  match gens, h with
  | [⟨tg, iter, ifs, asy⟩], h =>
    replace h : (decide (asy = 0) && okI G.nm cs N X.env.scope it iter && blkC N X.env.scope scope (ownOf N t) && tgB N false (relS scope X.env.scope) t tg && okC G.nm cs N (relS scope X.env.scope) c ifs && okE G.nm cs N (relS scope X.env.scope) e elt && itTg it tg) = true := h
    obtain ⟨h, h7⟩ := and_t h
    obtain ⟨h, h6⟩ := and_t h
    obtain ⟨h, h5⟩ := and_t h
    obtain ⟨h, h4⟩ := and_t h
    obtain ⟨h, h3⟩ := and_t h
    obtain ⟨h1, h2⟩ := and_t h
    have h1 := of_decide_eq_true h1
    subst h1
    have hb : BlkOk X.N X.env.scope scope (ownOf N t) := by rw [xo.hN]; exact blkOk_by h3
    exact ⟨tg, iter, ifs, rfl, hi _ tg iter X XW fnB h2 h7 xo rfl, hb, fun s H Cc cl fp => tg_pg (xo.blk s H scope _ fp) h4, fun s H Cc cl fp => hcc _ ifs _ _ false h5 (xo.blk s H scope _ fp) rfl, fun s H Cc cl fp => he _ elt _ _ false h6 (xo.blk s H scope _ fp) rfl, fun x => okI_iter h2 X.env x⟩
  | [], h => cases (show false = true from h)
  | ⟨_, _, _, _⟩ :: _ :: _, h => cases (show false = true from h)
theorem good_lc (t : Tg) {it : It F} {c : OE F} {e : E F} (hi : GoodI G C cs N k it) (hcc : GoodC G C cs N k c) (he : GoodE G C cs N k e) : GoodE G C cs N k (.lc t it c e) := by
  intro sc ast X XW fnB h xo hsc
  cases ast with
  | ListComp elt gens scope p =>
    subst hsc
    obtain ⟨tg, iter, ifs, rfl, h1, h2, h3, h4, h5, h6⟩ := lc_parts t hi hcc he h xo
    exact PE.weak (pe_lc (own := ownOf N t) xo.hc xo.nd h1 h2 h3 h4 h5 h6) lc_read
  | _ => cases (show false = true from h)
end
end EV

set_option maxRecDepth 100000
set_option maxHeartbeats 2000000
namespace EV
open PySem PySem.Spec PyProof.Rows L2 RT RZ
section
variable {F : Type} {G : Glo F} {C : Cf F} {cs : Cn} {N : List Str} {k : Nat}
/-- a test whose answer is its value's truth -/
theorem good_plain {e : E F} (he : GoodE G C cs N k e) (hp : ∀ (sc : Scope) (ast : Expr), okE G.nm cs N sc e ast = true → ∀ (env : PySem.Env) (whole : Sem Value), isTrue ast env whole = (do let v ← whole; standAt ast.pos; holding [v] (truthy v))) : GoodT G C cs N k e :=
  fun _ sc ast X XW fnB h xo hsc => pt_of (he sc ast X XW fnB h xo hsc) (hp sc ast h X.env)
theorem both {e : E F} (he : GoodE G C cs N k e) (hp : ∀ (sc : Scope) (ast : Expr), okE G.nm cs N sc e ast = true → ∀ (env : PySem.Env) (whole : Sem Value), isTrue ast env whole = (do let v ← whole; standAt ast.pos; holding [v] (truthy v))) : GoodE G C cs N k e ∧ GoodT G C cs N k e :=
  ⟨he, good_plain he hp⟩
mutual
theorem sndE (G : Glo F) (C : Cf F) (cs : Cn) (N : List Str) (k : Nat) : ∀ e : E F, GoodE G C cs N k e ∧ GoodT G C cs N k e
  | .var i => both (good_var i) fun sc ast h env wh => by cases ast <;> first | rfl | (cases (show false = true from h))
  | .cst c => both (good_cst c) fun sc ast h env wh => by cases ast <;> first | rfl | (cases (show false = true from h))
  | .glb x c => both (good_glb x c) fun sc ast h env wh => by cases ast <;> first | rfl | (cases (show false = true from h))
  | .tup es => both (good_tup (sndEs G C cs N k es).1) fun sc ast h env wh => by cases ast <;> first | rfl | (cases (show false = true from h))
  | .lst es => both (good_lst (sndEs G C cs N k es).1) fun sc ast h env wh => by cases ast <;> first | rfl | (cases (show false = true from h))
  | .bin o a b => both (good_bin o (sndE G C cs N k a).1 (sndE G C cs N k b).1) fun sc ast h env wh => by cases ast <;> first | rfl | (cases (show false = true from h))
  | .cmp o a b => good_cmp o (sndE G C cs N k a).1 (sndE G C cs N k b).1
  | .ch2 o p a b c => good_ch2 o p (sndE G C cs N k a).1 (sndE G C cs N k b).1 (sndE G C cs N k c).1
  | .ch3 o p q a b c d => good_ch3 o p q (sndE G C cs N k a).1 (sndE G C cs N k b).1 (sndE G C cs N k c).1 (sndE G C cs N k d).1
  | .and .nil => good_and0
  | .and (.cons e es) => good_and ((sndEs G C cs N k (.cons e es)).2.1 e es rfl)
  | .or .nil => good_or0
  | .or (.cons e es) => good_or ((sndEs G C cs N k (.cons e es)).2.2 e es rfl)
  | .not a => good_not (sndE G C cs N k a).1 (sndE G C cs N k a).2
  | .ife c a b => ⟨good_ife (sndE G C cs N k c).2 (sndE G C cs N k a).1 (sndE G C cs N k b).1, fun t => by cases (show false = true from t)⟩
  | .sub a i => both (good_sub (sndE G C cs N k a).1 (sndE G C cs N k i).1) fun sc ast h env wh => by cases ast <;> first | rfl | (cases (show false = true from h))
  | .slc a lo hi => both (good_slc (sndE G C cs N k a).1 (sndO G C cs N k lo).1 (sndO G C cs N k hi).1) fun sc ast h env wh => by cases ast <;> first | rfl | (cases (show false = true from h))
  | .isi a t => both (good_isi t (sndE G C cs N k a).1) fun sc ast h env wh => by cases ast <;> first | rfl | (cases (show false = true from h))
  | .isis a ts => both (good_isis ts (sndE G C cs N k a).1) fun sc ast h env wh => by cases ast <;> first | rfl | (cases (show false = true from h))
  | .bi f es => both (good_bi f (sndEs G C cs N k es).1) fun sc ast h env wh => by cases ast <;> first | rfl | (cases (show false = true from h))
  | .call f es => both (good_call f (sndEs G C cs N k es).1) fun sc ast h env wh => by cases ast <;> first | rfl | (cases (show false = true from h))
  | .lc t it c e => both (good_lc t (sndI G C cs N k it) (sndO G C cs N k c).2 (sndE G C cs N k e).1) fun sc ast h env wh => by cases ast <;> first | rfl | (cases (show false = true from h))
  | .glt x l => ⟨good_glt x l, good_no rfl⟩
  | .op1 o a => ⟨good_op1 o (sndE G C cs N k a).1, good_no rfl⟩
  | .op2 o a b => ⟨good_op2 o (sndE G C cs N k a).1 (sndE G C cs N k b).1, goodT_op2 o (sndE G C cs N k a).1 (sndE G C cs N k b).1⟩
  | .op3 o a b c => ⟨good_op3 o (sndE G C cs N k a).1 (sndE G C cs N k b).1 (sndE G C cs N k c).1, good_no rfl⟩
  | .dnew t => ⟨good_dnew t, good_no rfl⟩
  | .rgc t n es => ⟨good_rgc t n (sndEs G C cs N k es).1, good_no rfl⟩
  | .gget g t a b => ⟨good_gget g t (sndE G C cs N k a).1 (sndE G C cs N k b).1, good_no rfl⟩
  | .popL a b => ⟨good_popL (sndE G C cs N k a).1 (sndE G C cs N k b).1, good_no rfl⟩
  | .new a => ⟨good_new (sndE G C cs N k a).1, good_no rfl⟩
theorem sndEs (G : Glo F) (C : Cf F) (cs : Cn) (N : List Str) (k : Nat) : ∀ es : Es F, GoodEs G C cs N k es ∧ (∀ e es', es = .cons e es' → GoodAnd G C cs N k es) ∧ (∀ e es', es = .cons e es' → GoodOr G C cs N k es)
  | .nil => ⟨good_esnil, (fun _ _ z => nomatch z), (fun _ _ z => nomatch z)⟩
  | .cons e .nil => ⟨good_escons (sndE G C cs N k e).1 good_esnil, (fun _ _ _ => good_and_one (sndE G C cs N k e).1 (sndE G C cs N k e).2), fun _ _ _ => good_or_one (sndE G C cs N k e).1 (sndE G C cs N k e).2⟩
  | .cons e (.cons b es) =>
    have ih := sndEs G C cs N k (.cons b es)
    ⟨good_escons (sndE G C cs N k e).1 ih.1, (fun _ _ _ => good_and_cons (sndE G C cs N k e).1 (sndE G C cs N k e).2 (ih.2.1 b es rfl)), fun _ _ _ => good_or_cons (sndE G C cs N k e).1 (sndE G C cs N k e).2 (ih.2.2 b es rfl)⟩
theorem sndO (G : Glo F) (C : Cf F) (cs : Cn) (N : List Str) (k : Nat) : ∀ o : OE F, GoodO G C cs N k o ∧ GoodC G C cs N k o
  | .none => ⟨good_onone, good_cnone⟩
  | .some e => ⟨good_osome (sndE G C cs N k e).1, good_csome (sndE G C cs N k e).2⟩
theorem sndI (G : Glo F) (C : Cf F) (cs : Cn) (N : List Str) (k : Nat) : ∀ it : It F, GoodI G C cs N k it
  | .seq e => good_seq (sndE G C cs N k e).1
  | .rng n es => good_rng (sndEs G C cs N k es).1
  | .rev e => good_rev (sndE G C cs N k e).1
  | .zip es => good_zip (sndEs G C cs N k es).1
  | .enum es => good_enum (sndEs G C cs N k es).1
  | .zip3 es => good_zip3 (sndEs G C cs N k es).1
  | .zipr a b => good_zipr (sndE G C cs N k a).1 (sndE G C cs N k b).1
end
end
end EV

set_option maxRecDepth 100000
set_option maxHeartbeats 2000000
namespace EV
open PySem PySem.Spec PyProof.Rows L2 RT RZ
/-! ### statements -/
def SatX (K : PySem.W.Frag) {α : Type} (w0 : Wd) (r : Rs α) (P : α → Sto → Prop) (Z : Str → List AV → Wd → Prop) : Prop := match r with
  | .ok a s => P a s
  | .exc c fs s => ∀ w', w'.st = s → Ext w0 w' → WOK K w' → Z c fs w'
  | .stuck => False
/-- where a def's body stands: w0 its entry -/
structure FI (K : PySem.W.Frag) (w0 w : Wd) (env : Env) (σ : L2.St) (ks : List (AV × V)) : Prop where
  d0 : ∀ a ∈ w0.fb, w0.H a ≠ none
  ex : Ext w0 w
  ok : WOK K w
  en : REnv K w0 w env σ
  kv : KV K w ks
section
variable {K : PySem.W.Frag} {α β : Type} {w w0 w1 w2 : Wd} {env : Env} {σ : L2.St} {ks : List (AV × V)} {P : α → Sto → Prop} {Z : Str → List AV → Wd → Prop}
theorem SatX.bind {r : Rs α} {f : α → Sto → Rs β} {Q : β → Sto → Prop} (h : SatX K w0 (r.bind f) Q Z) : SatX K w0 r (fun a s => SatX K w0 (f a s) Q Z) Z := by
  cases r with
  | ok a s => exact h
  | exc c fs s => exact h
  | stuck => exact h
theorem SatX.sat {r : Rs α} (h : SatX K w0 r P Z) (e : Ext w0 w) : Sat K w r (fun a w' => Ext w w' ∧ WOK K w' ∧ P a w'.st) Z := by
  cases r with
  | ok a s => exact fun w' h1 h2 h3 => ⟨h2, h3, by rw [h1]; exact h⟩
  | exc c fs s => exact fun w' h1 h2 h3 => h w' h1 (e.trans h2) h3
  | stuck => exact h
theorem SatX.of_ {o : Option α} {s : Sto} (h : SatX K w0 (Rs.of o s) P Z) : ∃ a, o = some a ∧ P a s := by
  cases o with
  | none => exact (h : False).elim
  | some a => exact ⟨a, rfl, h⟩
theorem SatX.imp {r : Rs α} {P' : α → Sto → Prop} (h : SatX K w0 r P Z) (k : ∀ a s, P a s → P' a s) : SatX K w0 r P' Z := by
  cases r with
  | ok a s => exact k _ _ h
  | exc c fs s => exact h
  | stuck => exact h
theorem FI.step (f : FI K w0 w env σ ks) (e : Ext w w1) (ok : WOK K w1) : FI K w0 w1 env σ ks := ⟨f.d0, f.ex.trans e, ok, f.en.ext f.ok e, f.kv.ext f.ok e⟩
theorem FI.set {a : AV} {v : V} (i : Nat) (f : FI K w0 w env σ ks) (r : RW K w a v) : FI K w0 w (env.set i (.v a)) (σ.set i (some v)) ks := ⟨f.d0, f.ex, f.ok, f.en.set i r, f.kv⟩
/-- a name owns a new list, a new dict -/
theorem FI.own {c : Ct} {D : Addr} (i : Nat) (f : FI K w0 w env σ ks) (e : Ext w w1) (ok : WOK K w1) (h1 : RCt K w1 D c) (h3 : D ∈ w1.fb) (h4 : D ∉ w1.ro) (h5 : w.H D = none) :
    FI K w0 w1 (env.set i (.own c)) (σ.set i (some (.ref D))) ks := by
  have g := f.step e ok
  refine ⟨g.d0, g.ex, ok, ?_, g.kv⟩
  have h0 : w0.H D = none := f.ex.dom _ h5
  refine ⟨by rw [List.length_set, List.length_set]; exact g.en.len, fun j b q => ?_, fun j m q => ?_, fun j1 j2 l1 m1 a q1 q2 s1 s2 => ?_⟩
  · by_cases z : i = j
    · subst z
      by_cases z : i < env.length
      · rw [List.getElem?_set_self z] at q; cases q
      · rw [List.getElem?_eq_none (by rw [List.length_set]; omega)] at q; cases q
    · rw [List.getElem?_set_ne z] at q
      obtain ⟨u, h1, h2⟩ := g.en.val j b q
      exact ⟨u, by rw [List.getElem?_set_ne z]; exact h1, h2⟩
  · by_cases z : i = j
    · subst z
      by_cases z : i < env.length
      · rw [List.getElem?_set_self z] at q
        cases q
        exact ⟨D, List.getElem?_set_self (by rw [← g.en.len]; exact z), h1, h3, h4, h0⟩
      · rw [List.getElem?_eq_none (by rw [List.length_set]; omega)] at q; cases q
    · rw [List.getElem?_set_ne z] at q ⊢
      exact g.en.own j m q
  · have at_ : ∀ (j : Nat) m, (env.set i (.own c))[j]? = some (Sl.own m) → i = j ∨ (i ≠ j ∧ env[j]? = some (Sl.own m)) := fun j m q => by
      by_cases z : i = j
      · exact .inl z
      · rw [List.getElem?_set_ne z] at q
        exact .inr ⟨z, q⟩
    -- an older owner stands elsewhere
    have old : ∀ (j : Nat) m, env[j]? = some (Sl.own m) → σ[j]? = some (some (.ref D)) → False := fun j m q s => by
      obtain ⟨b, z1, z2, _⟩ := f.en.own j m q
      rw [s] at z1
      cases z1
      exact z2.at h5
    have len_i : ∀ m, (env.set i (.own c))[i]? = some (Sl.own m) → i < σ.length := fun m q => by
      by_cases z : i < env.length
      · rw [← g.en.len]; exact z
      · rw [List.getElem?_eq_none (by rw [List.length_set]; omega)] at q; cases q
    rcases at_ j1 l1 q1 with z1 | ⟨n1, z1⟩
    · rcases at_ j2 m1 q2 with z2 | ⟨n2, z2⟩
      · rw [← z1, ← z2]
      · subst z1
        rw [List.getElem?_set_self (len_i _ q1)] at s1
        cases s1
        rw [List.getElem?_set_ne n2] at s2
        exact (old _ _ z2 s2).elim
    · rcases at_ j2 m1 q2 with z2 | ⟨n2, z2⟩
      · subst z2
        rw [List.getElem?_set_self (len_i _ q2)] at s2
        cases s2
        rw [List.getElem?_set_ne n1] at s1
        exact (old _ _ z1 s1).elim
      · rw [List.getElem?_set_ne n1] at s1
        rw [List.getElem?_set_ne n2] at s2
        exact g.en.inj j1 j2 l1 m1 a z1 z2 s1 s2
/-- an owned list, an owned dict is changed -/
theorem FI.put {c c' : Ct} {us : List V} {D : Addr} {i : Nat} (f : FI K w0 w env σ ks) (hi : env[i]? = some (.own c)) (hs : σ[i]? = some (some (.ref D))) (hw : c'.wf) (hr : RWs K w c'.vals us) : FI K w0 (w.own D (c'.ho us)) (env.set i (.own c')) σ ks := by
  obtain ⟨D', z1, ⟨vs, z2, z2', z3⟩, z4, z5, z6⟩ := f.en.own i c hi
  rw [hs] at z1
  cases z1
  have m := c.mut vs
  refine ⟨f.d0, own_ext f.ex z2 m z6, own_ok f.ok z2 m z4 z5, ?_, fun p hp => own_ra z2 m z4 (f.kv p hp)⟩
  have li : i < env.length := (List.getElem?_eq_some_iff.mp hi).1
  refine ⟨by rw [List.length_set]; exact f.en.len, fun j b q => ?_, fun j m' q => ?_, fun j1 j2 l1 m1 a q1 q2 s1 s2 => ?_⟩
  · by_cases z : i = j
    · subst z
      rw [List.getElem?_set_self li] at q; cases q
    · rw [List.getElem?_set_ne z] at q
      obtain ⟨u, h1, h2⟩ := f.en.val j b q
      exact ⟨u, h1, own_ra z2 m z4 h2⟩
  · by_cases z : i = j
    · subst z
      rw [List.getElem?_set_self li] at q
      cases q
      exact ⟨D, hs, ⟨us, upd_same, hw, own_ras z2 m z4 hr⟩, z4, z5, z6⟩
    · rw [List.getElem?_set_ne z] at q
      obtain ⟨b, h1, ⟨xs, h2, h2', h3⟩, h4, h5, h6⟩ := f.en.own j m' q
      have ne : b ≠ D := by
        rintro rfl
        exact z (f.en.inj i j c m' b hi q hs h1)
      exact ⟨b, h1, ⟨xs, by show upd w.H D _ b = _; rw [upd_ne ne]; exact h2, h2', own_ras z2 m z4 h3⟩, h4, h5, h6⟩
  · have at_ : ∀ (j : Nat) m, (env.set i (.own c'))[j]? = some (Sl.own m) → ∃ m', env[j]? = some (Sl.own m') := fun j m q => by
      by_cases z : i = j
      · subst z; exact ⟨c, hi⟩
      · rw [List.getElem?_set_ne z] at q
        exact ⟨m, q⟩
    obtain ⟨m1', y1⟩ := at_ j1 l1 q1
    obtain ⟨m2', y2⟩ := at_ j2 m1 q2
    exact f.en.inj j1 j2 _ _ a y1 y2 s1 s2
/-- the world where D is a list like others -/
def Wd.fr (w : Wd) (D : Addr) : Wd := ⟨w.ro, w.fb.filter (· ≠ D), w.st, w.H⟩
theorem fr_ra {D : Addr} {x : AV} {v : V} (h : RW K w x v) : RW K (w.fr D) x v :=
  RA.mono (fun _ _ q => q) (fun b _ q _ n => ⟨q, fun z => n (List.mem_filter.mp z).1⟩) (fun _ _ q => q) (fun _ _ q => q) x v h
theorem fr_ras {D : Addr} {l : List AV} {vs : List V} (h : RWs K w l vs) : RWs K (w.fr D) l vs :=
  RAs.mono (fun _ _ q => q) (fun b _ q _ n => ⟨q, fun z => n (List.mem_filter.mp z).1⟩) (fun _ _ q => q) (fun _ _ q => q) l vs h
theorem fr_ok {D : Addr} (ok : WOK K w) (hr : D ∉ w.ro) : WOK K (w.fr D) := by
  refine ⟨fun b hb => List.mem_filter.mpr ⟨ok.sub b hb, ?_⟩, fun b hb => ok.dom b (List.mem_filter.mp hb).1, ok.nd, ok.len, fun n o b q1 q2 => ?_⟩
  · have : b ≠ D := by rintro rfl; exact hr hb
    simpa using this
  · exact RO.mono (w := w) (fun _ h _ => h) (fun _ _ h => h) (fun _ _ h => fr_ras h) (ok.obj n o b q1 q2)
/-- an owned list is let be, by the name j (or its own) -/
theorem FI.free {c : Ct} {D : Addr} {i : Nat} (f : FI K w0 w env σ ks) (hi : env[i]? = some (.own c)) (hs : σ[i]? = some (some (.ref D))) : FI K w0 (w.fr D) (env.set i .no) σ ks ∧ RW K (w.fr D) c.av (.ref D) := by
  obtain ⟨D', z1, z2, z4, z5, z6⟩ := f.en.own i c hi
  rw [hs] at z1
  cases z1
  refine ⟨⟨f.d0, ?_, fr_ok f.ok z5, ?_, fun p hp => fr_ra (f.kv p hp)⟩, Ct.fr (w := w.fr D) (z2.mono (fun _ q _ => q) fun _ q => fr_ras q) (by show D ∉ w.fb.filter (· ≠ D); simp)⟩
  · refine ⟨f.ex.ro, f.ex.keep, f.ex.tup, f.ex.frz, f.ex.own, f.ex.dom, fun b hb => List.mem_filter.mpr ⟨f.ex.fb b hb, ?_⟩, fun b hb => f.ex.new b (List.mem_filter.mp hb).1⟩
    have : b ≠ D := by rintro rfl; exact f.d0 b hb z6
    simpa using this
  · have li : i < env.length := (List.getElem?_eq_some_iff.mp hi).1
    refine ⟨by rw [List.length_set]; exact f.en.len, fun j b q => ?_, fun j m q => ?_, fun j1 j2 l1 m1 a q1 q2 s1 s2 => ?_⟩
    · by_cases z : i = j
      · subst z
        rw [List.getElem?_set_self li] at q; cases q
      · rw [List.getElem?_set_ne z] at q
        obtain ⟨u, h1, h2⟩ := f.en.val j b q
        exact ⟨u, h1, fr_ra h2⟩
    · by_cases z : i = j
      · subst z
        rw [List.getElem?_set_self li] at q; cases q
      · rw [List.getElem?_set_ne z] at q
        obtain ⟨b, h1, h2, h4, h5, h6⟩ := f.en.own j m q
        refine ⟨b, h1, h2.mono (fun _ q _ => q) (fun _ q => fr_ras q), List.mem_filter.mpr ⟨h4, ?_⟩, h5, h6⟩
        have ne : b ≠ D := by
          rintro rfl
          exact z (f.en.inj i j c m b hi q hs h1)
        simpa using ne
    · have at_ : ∀ (j : Nat) m, (env.set i .no)[j]? = some (Sl.own m) → env[j]? = some (Sl.own m) := fun j m q => by
        by_cases z : i = j
        · subst z
          rw [List.getElem?_set_self li] at q; cases q
        · rw [List.getElem?_set_ne z] at q
          exact q
      exact f.en.inj j1 j2 _ _ a (at_ _ _ q1) (at_ _ _ q2) s1 s2
end
end EV

set_option maxRecDepth 100000
set_option maxHeartbeats 2000000
namespace EV
open PySem PySem.Spec PyProof.Rows L2 RT RZ
section
variable {K : PySem.W.Frag} {w w0 w1 : Wd} {env : Env} {σ : L2.St} {ks : List (AV × V)}
/-- a new object comes into the store -/
theorem FI.allocO {o : Ob} {D : Addr} (f : FI K w0 w env σ ks) (e : Ext w w1) (ok : WOK K w1) (h1 : RO K w1 D o) (h3 : D ∈ w1.fb) (h4 : D ∉ w1.ro) (h5 : w.H D = none) :
    FI K w0 (w1.al D o) env σ ks := f.step (al_ext e h5) (al_ok ok h1 h3 h4)
/-- a just made list, a just made dict comes into the store -/
theorem FI.alloc {c : Ct} {D : Addr} (i : Nat) (f : FI K w0 w env σ ks) (e : Ext w w1) (ok : WOK K w1) (h1 : RCt K w1 D c) (h3 : D ∈ w1.fb) (h4 : D ∉ w1.ro) (h5 : w.H D = none) :
    FI K w0 (w1.al D (.ct c)) (env.set i (.v (.loc w1.st.ob.length))) (σ.set i (some (.ref D))) ks :=
  (f.allocO (o := .ct c) e ok h1 h3 h4 h5).set i (.loc (al_at ok))
/-- an object of the store is written -/
theorem FI.store {o1 o : Ob} {u1 u2 : HO} {D : Addr} {n : Nat} (f : FI K w0 w env σ ks) (hn : w.st.ob[n]? = some o1) (hr : w.ro[n]? = some D) (hD : w.H D = some u1) (m : Mut u1) (h2 : RO K (w.wr n D u2 o) D o) :
    FI K w0 (w.wr n D u2 o) env σ ks := by
  have mem : D ∈ w.ro := List.mem_of_getElem? hr
  have hf : D ∈ w.fb := f.ok.sub D mem
  refine ⟨f.d0, wr_ext f.ex hr hD m, wr_ok f.ok hn hr hD m h2, ⟨f.en.len, fun j b q => ?_, fun j c q => ?_, f.en.inj⟩, fun p hp => wr_ra hD m hf (f.kv p hp)⟩
  · obtain ⟨u, z1, z2⟩ := f.en.val j b q
    exact ⟨u, z1, wr_ra hD m hf z2⟩
  · obtain ⟨b, z1, ⟨xs, z2, z2', z3⟩, z4, z5, z6⟩ := f.en.own j c q
    exact ⟨b, z1, ⟨xs, by show upd w.H D u2 b = _; rw [upd_ne (by rintro rfl; exact z5 mem)]; exact z2, z2', wr_ras hD m hf z3⟩, z4, z5, z6⟩
/-- .. a list, a dict -/
theorem FI.storeC {c c' : Ct} {us vs : List V} {D : Addr} {n : Nat} (f : FI K w0 w env σ ks) (hn : w.st.ob[n]? = some (.ct c)) (hr : w.ro[n]? = some D) (hD : w.H D = some (c.ho vs)) (hw : c'.wf) (h2 : RWs K w c'.vals us) :
    FI K w0 (w.wr n D (c'.ho us) (.ct c')) env σ ks :=
  f.store hn hr hD (c.mut vs) ⟨us, upd_same, hw, wr_ras hD (c.mut vs) (f.ok.sub D (List.mem_of_getElem? hr)) h2⟩
end
section
variable {F : Type} (G : Glo F) (C : Cf F) (cs : Cn) (N : List Str) (k : Nat)
def EndS (K : PySem.W.Frag) (w0 : Wd) (ks : List (AV × V)) (D : Ends) : Fl × Env → Sto → Prop := fun p s => match p.1 with
  | .nx => ∀ w' σ', w'.st = s → FI K w0 w' p.2 σ' ks → D.nx σ' w'.H
  | .rt r => ∀ w' v, w'.st = s → Ext w0 w' → WOK K w' → RR K w0 w' r v → D.rt v w'.H
def tSt (K : PySem.W.Frag) (XW : XK) (s : S F) : TS := fun D σ H => ∃ w w0 env ks, w.H = H ∧ FI K w0 w env σ ks ∧ SatX K w0 (ex C env s w.st) (EndS K w0 ks D) (xq G XW)
def tSts (K : PySem.W.Frag) (XW : XK) (s : Ss F) : TS := fun D σ H => ∃ w w0 env ks, w.H = H ∧ FI K w0 w env σ ks ∧ SatX K w0 (exs C env s w.st) (EndS K w0 ks D) (xq G XW)
structure SOk (X : Cx) (XW : XK) : Prop where
  xo : XOk G C cs N k X XW true
  hp : PassesOwn (model X.prog X.w) X.A X.env X.xe
def GoodS (s : S F) : Prop := ∀ (sc : Scope) (ast : Stmt) (X : Cx) (XW : XK), okS G.nm cs N sc s ast = true → SOk G C cs N k X XW → X.env.scope = sc → PS X ast (tSt G C X.K XW s)
def GoodSs (s : Ss F) : Prop := ∀ (sc : Scope) (asts : List Stmt) (X : Cx) (XW : XK), okSs G.nm cs N sc s asts = true → SOk G C cs N k X XW → X.env.scope = sc → PSs X asts (tSts G C X.K XW s)
end
section
variable {F : Type} {G : Glo F} {C : Cf F} {cs : Cn} {N : List Str} {k : Nat}
theorem swaps_lc {elt : Expr} {gs : List Comprehension} {scope : Scope} {pos py : Pos} {y : Str} {l : Nat} {env : PySem.Env} : ∃ b, swapsWith (.ListComp elt gs scope pos) (some (.Name y py)) l env = pure b ∧ (b = true → env.kindOf y = some .local) := by
  refine ⟨env.blockKind == .function && env.kindOf y == some .local && py.line == (Expr.ListComp elt gs scope pos).pos.line && !(scope.names.any fun (n, k) => n == y && (k == .local || k == .cell)), rfl, fun h => ?_⟩
  obtain ⟨h, _⟩ := and_t h
  obtain ⟨h, _⟩ := and_t h
  obtain ⟨_, h⟩ := and_t h
  simpa using h
/-- name = value: whatever the value is -/
theorem ps_setA {X : Cx} {XW : XK} {i : Nat} {x : Str} {p spos : Pos} {v : Expr} {e : E F} (xo : XOk G C cs N k X XW true) (h1 : nameB N true X.env.scope i (.Name x p) = true) (h2 : (setB e && okE G.nm cs N X.env.scope e v) = true) : PS X (.Assign [.Name x p] v spos) (tAsg (tEv G C X.K XW e) (gName i)) := by
  obtain ⟨x', p', e1, hi, hx, hf⟩ := name_ok xo h1
  cases e1
  obtain ⟨h3, h2⟩ := and_t h2
  have he := (sndE G C cs N k e).1 _ v X XW true h2 xo rfl
  cases v with
  | ListComp elt gens scope p2 =>
    cases e with
    | lc t it c e =>
      obtain ⟨b, hb, hl⟩ := swaps_lc (elt := elt) (gs := gens) (scope := scope) (pos := p2) (py := p) (y := x) (l := spos.line) (env := X.env)
      cases b with
      | false => exact ps_set xo.nd hi hx he hb hf
      | true =>
        obtain ⟨tg, iter, ifs, rfl, k1, k2, k3, k4, k5, k6⟩ := lc_parts t (sndI G C cs N k it) (sndO G C cs N k c).2 (sndE G C cs N k e).1 h2 xo
        refine PS.weak (ps_setLc (own := ownOf N t) xo.hc xo.nd hi (hl rfl) hb k1 k2 k3 k4 k5 k6) fun D σ H q => ?_
        exact lc_read _ _ _ q
    | new a => cases h3
    | _ => cases (show false = true from h2)
  | SetComp a b c d => cases e <;> first | (cases h3; done) | cases (show false = true from h2)
  | DictComp a b c d e' => cases e <;> first | (cases h3; done) | cases (show false = true from h2)
  | _ => exact ps_set xo.nd hi hx he rfl hf
end
end EV

set_option maxRecDepth 100000
set_option maxHeartbeats 2000000
namespace EV
open PySem PySem.Spec PyProof.Rows L2 RT RZ
section
variable {F : Type} {G : Glo F} {C : Cf F} {cs : Cn} {N : List Str} {k : Nat}
/-- an expression in a statement: its value, frozen if it was just made -/
theorem st_frz {K : PySem.W.Frag} {XW : XK} {w w0 : Wd} {env : Env} {σ : L2.St} {ks : List (AV × V)} {e : E F} {α : Type} {f : R → Sto → Rs α} {P : α → Sto → Prop} {Q : VK} (fi : FI K w0 w env σ ks) (h : SatX K w0 ((ev C env e w.st).bind f) P (xq G XW))
    (q : ∀ r w2 v, FI K w0 w2 env σ ks → Ext w w2 → RR K w w2 (fz r) v → SatX K w0 (f r w2.st) P (xq G XW) → Q v w2.H) : tEv G C K XW e σ w.H Q :=
  ⟨w, w0, env, rfl, fi.ok, fi.en, (h.bind.sat fi.ex).imp fun r w1 ⟨e1, ok1, h1⟩ v rv => by
    obtain ⟨w2, eH, eS, e2, ok2, rv2⟩ := freeze e1 ok1 rv fi.ok.dom
    rw [← eH]
    exact q r w2 v (fi.step e2 ok2) e2 rv2 (by rw [eS]; exact h1)⟩
/-- .. as it is -/
theorem st_raw {K : PySem.W.Frag} {XW : XK} {w w0 : Wd} {env : Env} {σ : L2.St} {ks : List (AV × V)} {e : E F} {α : Type} {f : R → Sto → Rs α} {P : α → Sto → Prop} {Q : VK} (fi : FI K w0 w env σ ks) (h : SatX K w0 ((ev C env e w.st).bind f) P (xq G XW))
    (q : ∀ r w1 v, FI K w0 w1 env σ ks → Ext w w1 → WOK K w1 → RR K w w1 r v → SatX K w0 (f r w1.st) P (xq G XW) → Q v w1.H) : tEv G C K XW e σ w.H Q :=
  ⟨w, w0, env, rfl, fi.ok, fi.en, (h.bind.sat fi.ex).imp fun r w1 ⟨e1, ok1, h1⟩ v rv => q r w1 v (fi.step e1 ok1) e1 ok1 rv h1⟩
theorem gs_set (i : Nat) (e : E F) : GoodS G C cs N k (.set i e) := by
  intro sc ast X XW h so hsc
  cases ast with
  | Assign ts v p =>
    replace h : (match name1 ts with
      | some (x, p) => nameB N true sc i (.Name x p) && (setB e && okE G.nm cs N sc e v)
      | none => false) = true := h
    split at h
    · rename_i x p2 hn
      cases name1_ok hn
      obtain ⟨h1, h2⟩ := and_t h
      subst hsc
      refine PS.weak (ps_setA so.xo h1 h2) fun D σ H q => ?_
      obtain ⟨w, w0, env, ks, rfl, fi, q⟩ := q
      refine st_frz fi q fun r w2 v fi2 e2 rv h => ?_
      obtain ⟨a, ha, h⟩ := h.bind.of_
      exact h w2 _ rfl (fi2.set i (toA_ok rv ha))
    · cases h
  | _ => cases (show false = true from h)
theorem gs_own (i : Nat) (e : E F) : GoodS G C cs N k (.own i e) := by
  intro sc ast X XW h so hsc
  cases ast with
  | Assign ts v p =>
    replace h : (match name1 ts with
      | some (x, p) => nameB N true sc i (.Name x p) && (setB e && okE G.nm cs N sc e v)
      | none => false) = true := h
    split at h
    · rename_i x p2 hn
      cases name1_ok hn
      obtain ⟨h1, h2⟩ := and_t h
      subst hsc
      refine PS.weak (ps_setA so.xo h1 h2) fun D σ H q => ?_
      obtain ⟨w, w0, env, ks, rfl, fi, q⟩ := q
      refine st_raw fi q fun r w1 v fi1 e1 ok1 rv h => ?_
      cases r with
      | tl l =>
        obtain ⟨a, rfl, z1, z3, z4, z5⟩ := rv
        exact h w1 _ rfl (fi.own i e1 ok1 z1 z3 z4 z5)
      | _ => exact (h : False).elim
    · cases h
  | _ => cases (show false = true from h)
theorem gs_heap (i : Nat) (e : E F) : GoodS G C cs N k (.heap i e) := by
  intro sc ast X XW h so hsc
  cases ast with
  | Assign ts v p =>
    replace h : (match name1 ts with
      | some (x, p) => nameB N true sc i (.Name x p) && (setB e && okE G.nm cs N sc e v)
      | none => false) = true := h
    split at h
    · rename_i x p2 hn
      cases name1_ok hn
      obtain ⟨h1, h2⟩ := and_t h
      subst hsc
      refine PS.weak (ps_setA so.xo h1 h2) fun D σ H q => ?_
      obtain ⟨w, w0, env, ks, rfl, fi, q⟩ := q
      refine st_raw fi q fun r w1 v fi1 e1 ok1 rv h => ?_
      cases r with
      | tl l =>
        obtain ⟨a, rfl, z1, z3, z4, z5⟩ := rv
        exact h (w1.al a (.ct l)) _ rfl (fi.alloc i e1 ok1 z1 z3 z4 z5)
      | _ => exact (h : False).elim
    · cases h
  | _ => cases (show false = true from h)
theorem var_pe {X : Cx} {XW : XK} {fnB : Bool} {i : Nat} {v : Expr} (xo : XOk G C cs N k X XW fnB) (h : okE G.nm cs N X.env.scope (.var i) v = true) : ∃ y q, v = .Name y q ∧ PE X v (tVar i) := by
  cases v with
  | Name x p =>
    replace h : (decide (N[i]? = some x) && visB X.env.scope x && !(x == ("__debug__" : Str)) && !(x == ("__classdict__" : Str))) = true := h
    obtain ⟨h, h4⟩ := and_t h
    obtain ⟨h, h3⟩ := and_t h
    obtain ⟨h1, h2⟩ := and_t h
    have h1 := of_decide_eq_true h1
    exact ⟨x, p, rfl, pe_var (i := i) (by rw [xo.hN]; exact h1) (visB_ok h2) (not_f h3) (not_f h4)⟩
  | _ => cases (show false = true from h)
theorem gs_mv (i j : Nat) : GoodS G C cs N k (.mv i j) := by
  intro sc ast X XW h so hsc
  cases ast with
  | Assign ts v p =>
    replace h : (match name1 ts with
      | some (x, p) => nameB N true sc i (.Name x p) && okE G.nm cs N sc (.var j) v
      | none => false) = true := h
    split at h
    · rename_i x p2 hn
      cases name1_ok hn
      obtain ⟨h1, h2⟩ := and_t h
      subst hsc
      obtain ⟨y, q, rfl, hp⟩ := var_pe so.xo h2
      obtain ⟨x', p', e1, hi, hx, hf⟩ := name_ok so.xo h1
      cases e1
      refine PS.weak (ps_set so.xo.nd hi hx hp rfl hf) fun D σ H q => ?_
      obtain ⟨w, w0, env, ks, rfl, fi, q⟩ := q
      have q : SatX X.K w0 (match env[j]? with
        | some (.own c) => Rs.ok (Fl.nx, (env.set j .no).set i (.v c.av)) w.st
        | _ => .stuck) (EndS X.K w0 ks D) (xq G XW) := q
      split at q
      · rename_i l hj
        obtain ⟨a, y1, _⟩ := fi.en.own j l hj
        obtain ⟨f2, r2⟩ := fi.free hj y1
        exact ⟨.ref a, y1, q (w.fr a) _ rfl (f2.set i r2)⟩
      · exact (q : False).elim
    · cases h
  | _ => cases (show false = true from h)
theorem meth_base {nm : F → Option Str} {sc : Scope} {e : E F} {x : Expr} (h : okE nm cs N sc e x = true) (a : Str) (ha : (a == ("__class__" : Str)) = false) (env : PySem.Env) (hs : ∀ p, x ≠ .Call (.Name "super" p) [] [] p) : attributeBase x a env (eval x env) = eval x env := by
  cases x with
  | Call f xs kws p =>
    cases f with
    | Name g q =>
      match xs, kws, h with
      | [], [], h => cases e <;> cases (show false = true from h)
      | [], _ :: _, h => rfl
      | _ :: _, _, h => rfl
    | _ => rfl
  | _ => rfl
theorem few1 {e : Expr} {env : PySem.Env} {cpos : Pos} (hs : starEach [e] env = (false, eval e env) :: starEach [] env) : ((backTo cpos (starEach [e] env)).all (fun x => !x.1) && (backToKw cpos (keywordEach [] env)).all (fun x => x.1.isSome)
      && decide (([e] : List Expr).length + ([] : List Keyword).length + (if ([] : List Keyword).isEmpty then 0 else 1) < 30)) = true := by
  rw [hs]
  rfl
theorem gs_app (i : Nat) (e : E F) : GoodS G C cs N k (.app i e) := by
  intro sc ast X XW h so hsc
  cases ast with
  | Expr c p =>
    replace h : (match meth1 c with
      | some (x, a, ap, v, cp) => (ap.endLine == cp.line) && decide (a = ("append" : Str)) && okE G.nm cs N sc (.var i) x && okE G.nm cs N sc e v
      | none => false) = true := h
    split at h
    · rename_i x a ap v cp hm
      cases meth1_ok hm
      obtain ⟨h, h4⟩ := and_t h
      obtain ⟨h, h3⟩ := and_t h
      obtain ⟨h1, h2⟩ := and_t h
      have h2 := of_decide_eq_true h2
      subst hsc h2
      obtain ⟨y, q, rfl, hp⟩ := var_pe so.xo h3
      have hs := okE_star h4 [] X.env
      refine PS.weak (ps_expr (pe_bm PySem.F.plainAttrs_list PySem.F.slot_list_append PySem.F.type_list_append mt_append hp (pa_cons ((sndE G C cs N k e).1 _ v X XW true h4 so.xo rfl) pa_nil hs) rfl (few1 hs) h1 hs rfl) rfl) fun D σ H q => ?_
      obtain ⟨w, w0, env, ks, rfl, fi, q⟩ := q
      have q : SatX X.K w0 (match env[i]? with
        | some (.own (.lst l)) => (ev C env e w.st).bind fun r s => (Rs.of (toA (fz r)) s).bind fun a s => if l.length < sizeLine then .ok (Fl.nx, env.set i (.own (.lst (l ++ [a])))) s else .stuck
        | _ => .stuck) (EndS X.K w0 ks D) (xq G XW) := q
      split at q
      · rename_i l hi
        obtain ⟨a, y1, ⟨vs, y2, _⟩, _⟩ := fi.en.own i _ hi
        refine ⟨.ref a, y1, .inl ⟨rfl, _, SqL.of y2⟩, ?_⟩
        refine st_frz fi q fun r w2 v fi2 e2 rv h => ?_
        obtain ⟨b, hb, h⟩ := h.bind.of_
        split at h
        · rename_i hlen
          obtain ⟨a', z1, ⟨vs', z2, _, z3⟩, z4, z5, z6⟩ := fi2.en.own i _ hi
          rw [y1] at z1
          cases z1
          have z3 : RWs X.K w2 l vs' := z3
          refine ⟨a, vs', v, rfl, rfl, z2, by rw [← z3.length]; exact hlen, ?_⟩
          exact h (w2.own a (.lst (vs' ++ [v]))) _ rfl (fi2.put (c' := .lst (l ++ [b])) hi y1 trivial (z3.append (.cons (toA_ok rv hb) .nil)))
        · exact (h : False).elim
      · exact (q : False).elim
    · cases h
  | _ => cases (show false = true from h)
theorem gs_ext (i : Nat) (e : E F) : GoodS G C cs N k (.ext i e) := by
  intro sc ast X XW h so hsc
  cases ast with
  | Expr c p =>
    replace h : (match meth1 c with
      | some (x, a, ap, v, cp) => (ap.endLine == cp.line) && decide (a = ("extend" : Str)) && okE G.nm cs N sc (.var i) x && okE G.nm cs N sc e v
      | none => false) = true := h
    split at h
    · rename_i x a ap v cp hm
      cases meth1_ok hm
      obtain ⟨h, h4⟩ := and_t h
      obtain ⟨h, h3⟩ := and_t h
      obtain ⟨h1, h2⟩ := and_t h
      have h2 := of_decide_eq_true h2
      subst hsc h2
      obtain ⟨y, q, rfl, hp⟩ := var_pe so.xo h3
      have hs := okE_star h4 [] X.env
      refine PS.weak (ps_expr (pe_bm PySem.F.plainAttrs_list PySem.F.slot_list_extend PySem.F.type_list_extend mt_extend hp (pa_cons ((sndE G C cs N k e).1 _ v X XW true h4 so.xo rfl) pa_nil hs) rfl (few1 hs) h1 hs rfl) rfl) fun D σ H q => ?_
      obtain ⟨w, w0, env, ks, rfl, fi, q⟩ := q
      have q : SatX X.K w0 (match env[i]? with
        | some (.own (.lst l)) => (ev C env e w.st).bind fun r s => match fz r with
          | .v (.lst m) => if l.length + m.length ≤ sizeLine then .ok (Fl.nx, env.set i (.own (.lst (l ++ m)))) s else .stuck
          | _ => .stuck
        | _ => .stuck) (EndS X.K w0 ks D) (xq G XW) := q
      split at q
      · rename_i l hi
        obtain ⟨a, y1, ⟨vs, y2, _⟩, _⟩ := fi.en.own i _ hi
        refine ⟨.ref a, y1, .inl ⟨rfl, _, SqL.of y2⟩, ?_⟩
        refine st_frz fi q fun r w2 v fi2 e2 rv h => ?_
        split at h
        · rename_i m hm
          split at h
          · rename_i hlen
            obtain ⟨a', z1, ⟨vs', z2, _, z3⟩, z4, z5, z6⟩ := fi2.en.own i _ hi
            rw [y1] at z1
            cases z1
            have z3 : RWs X.K w2 l vs' := z3
            rw [hm] at rv
            have rv : RW X.K w2 (.lst m) v := rv
            cases rv with
            | lst g1 g2 g3 =>
              refine ⟨a, _, vs', _, rfl, rfl, z2, g1, by rw [← z3.length, ← g3.length]; exact hlen, ?_⟩
              exact h (w2.own a (.lst (vs' ++ _))) _ rfl (fi2.put (c' := .lst (l ++ m)) hi y1 trivial (z3.append g3))
          · exact (h : False).elim
        · exact (h : False).elim
      · exact (q : False).elim
    · cases h
  | _ => cases (show false = true from h)
theorem isTupE_swaps {v : Expr} (h : (!isTupE v) = true) : (∀ (t : Option Expr) (l : Nat) (env : PySem.Env), swapsWith v t l env = pure false) ∧ ∀ (tg : Expr) (env : PySem.Env), swappedStores [tg] v env = pure none := by
  cases v with
  | Tuple a b c => cases h
  | ListComp a b c d => cases h
  | SetComp a b c d => cases h
  | DictComp a b c d e => cases h
  | _ => exact ⟨fun _ _ _ => rfl, fun tg _ => by cases tg <;> rfl⟩
theorem gs_unp (is : List Nat) (e : E F) : GoodS G C cs N k (.unp is e) := by
  intro sc ast X XW h so hsc
  cases ast with
  | Assign ts v p =>
    replace h : (match tup1 ts with
      | some (es, _, _) => namesB N true sc is es && !isTupE v && okE G.nm cs N sc e v
      | none => false) = true := h
    split at h
    · rename_i es kk p2 hn
      cases tup1_ok hn
      obtain ⟨h, h3⟩ := and_t h
      obtain ⟨h1, h2⟩ := and_t h
      subst hsc
      obtain ⟨s1, s2⟩ := isTupE_swaps h2
      have hg : PG X (.Tuple es kk p2) (gT X.K (.tp is)) := tg_pg (t := .tp is) so.xo h1
      refine PS.weak (ps_asg ((sndE G C cs N k e).1 _ v X XW true h3 so.xo rfl) hg (by unfold swapsWithSole; exact s1 _ _ _) (s2 _ _) rfl) fun D σ H q => ?_
      obtain ⟨w, w0, env, ks, rfl, fi, q⟩ := q
      refine st_raw fi q fun r w1 v fi1 e1 ok1 rv h => ?_
      split at h
      · rename_i l
        split at h
        · rename_i hl
          refine gT_ok (env1 := (is.zip l).foldl (fun e p => e.set p.1 (.v p.2)) env) (by show (if is.length = l.length then _ else _) = _; rw [if_pos hl]) fi1.en rv fun σ' en' _ => ?_
          exact h w1 σ' rfl ⟨fi1.d0, fi1.ex, fi1.ok, en', fi1.kv⟩
        · exact (h : False).elim
      · exact (h : False).elim
    · cases h
  | _ => cases (show false = true from h)
theorem sub_asg {nm : F → Option Str} {sc : Scope} {e : E F} {X : Cx} {o i : Expr} {pos : Pos} (h : okE nm cs N sc e i = true) : ∀ v, assign (.Subscript o i pos) X.env v = (do
      let ov ← holding [v] (eval o X.env)
      let iv ← holding [v, ov] (eval i X.env)
      standAt pos
      holding [v, ov, iv] (setItem ov iv v)
      release [v, ov, iv] []) := by
  intro v
  cases i with
  | Slice a b c d => cases e <;> cases (show false = true from h)
  | _ => rfl
theorem gs_putO (i : Nat) (kx e : E F) : GoodS G C cs N k (.putO i kx e) := by
  intro sc ast X XW h so hsc
  cases ast with
  | Assign ts v p =>
    replace h : (match sub1 ts with
      | some (x, y, _) => okE G.nm cs N sc (.var i) x && okE G.nm cs N sc kx y && !isTupE v && okE G.nm cs N sc e v
      | none => false) = true := h
    split at h
    · rename_i x y p2 hn
      cases sub1_ok hn
      obtain ⟨h, h4⟩ := and_t h
      obtain ⟨h, h3⟩ := and_t h
      obtain ⟨h1, h2⟩ := and_t h
      subst hsc
      obtain ⟨s1, s2⟩ := isTupE_swaps h3
      obtain ⟨z, q, rfl, hp⟩ := var_pe so.xo h1
      refine PS.weak (ps_asg ((sndE G C cs N k e).1 _ v X XW true h4 so.xo rfl) (pg_sub hp ((sndE G C cs N k kx).1 _ y X XW true h2 so.xo rfl) set_list (sub_asg h2)) (by unfold swapsWithSole; exact s1 _ _ _) (s2 _ _) rfl) fun D σ H q => ?_
      obtain ⟨w, w0, env, ks, rfl, fi, q⟩ := q
      have q : SatX X.K w0 ((ev C env e w.st).bind fun r s => (Rs.of (toA (fz r)) s).bind fun a s => match env[i]? with
        | some (.own (.lst l)) => (ev C env kx s).bind fun y s => match y with
          | .v (.int j) => (match ixN l.length j with
            | some n => .ok (Fl.nx, env.set i (.own (.lst (l.set n a)))) s
            | none => .stuck)
          | _ => .stuck
        | _ => .stuck) (EndS X.K w0 ks D) (xq G XW) := q
      refine st_frz fi q fun r w2 v fi2 e2 rv h => ?_
      obtain ⟨a, ha, h⟩ := h.bind.of_
      have ra := toA_ok rv ha
      split at h
      · rename_i l hi
        obtain ⟨D1, y1, ⟨vs, y2, _⟩, _⟩ := fi2.en.own i _ hi
        refine ⟨.ref D1, y1, st_raw fi2 h fun y w3 u fi3 e3 ok3 ry h => ?_⟩
        split at h
        · rename_i j
          split at h
          · rename_i n hn
            obtain ⟨D', z1, ⟨vs', z2, _, z3⟩, z4, z5, z6⟩ := fi3.en.own i _ hi
            rw [y1] at z1
            cases z1
            have z3 : RWs X.K w3 l vs' := z3
            have ry : RW X.K w3 (.int j) u := ry
            cases ry
            refine ⟨D1, vs', j, n, rfl, rfl, z2, by rw [← z3.length]; exact hn, ?_⟩
            exact h (w3.own D1 (.lst (vs'.set n v))) _ rfl (fi3.put (c' := .lst (l.set n a)) hi y1 trivial (z3.set (RA.ext fi2.ok e3 ra) n))
          · exact (h : False).elim
        · exact (h : False).elim
      · exact (h : False).elim
    · cases h
  | _ => cases (show false = true from h)
/-- an object of the store, by its number -/
theorem loc_ok {K : PySem.W.Frag} {w : Wd} {n : Nat} {v : V} {l : List AV} (ok : WOK K w) (h : RW K w (.loc n) v) (e : w.st.ob[n]? = some (.ct (.lst l))) : ∃ D vs, v = .ref D ∧ w.ro[n]? = some D ∧ w.H D = some (.lst vs) ∧ RWs K w l vs := by
  obtain ⟨a, rfl, h1, vs, z1, _, z2⟩ := loc_ct ok h e
  exact ⟨_, vs, rfl, h1, z1, z2⟩
theorem wr_st {s s' : Sto} {n : Nat} {f : List AV → Option (List AV)} (h : wr s n f = some s') : ∃ l l', s.ob[n]? = some (.ct (.lst l)) ∧ f l = some l' ∧ s' = ⟨s.fl, s.ob.set n (.ct (.lst l'))⟩ := by
  unfold wr at h
  split at h
  · cases h
  · split at h
    · rename_i l hl
      obtain ⟨l', q1, q2⟩ := Option.map_eq_some_iff.mp h
      exact ⟨l, l', hl, q1, q2.symm⟩
    · cases h
theorem gs_putL (o kx e : E F) : GoodS G C cs N k (.putL o kx e) := by
  intro sc ast X XW h so hsc
  cases ast with
  | Assign ts v p =>
    replace h : (match sub1 ts with
      | some (x, y, _) => okE G.nm cs N sc o x && okE G.nm cs N sc kx y && !isTupE v && okE G.nm cs N sc e v
      | none => false) = true := h
    split at h
    · rename_i x y p2 hn
      cases sub1_ok hn
      obtain ⟨h, h4⟩ := and_t h
      obtain ⟨h, h3⟩ := and_t h
      obtain ⟨h1, h2⟩ := and_t h
      subst hsc
      obtain ⟨s1, s2⟩ := isTupE_swaps h3
      refine PS.weak (ps_asg ((sndE G C cs N k e).1 _ v X XW true h4 so.xo rfl) (pg_sub ((sndE G C cs N k o).1 _ x X XW true h1 so.xo rfl) ((sndE G C cs N k kx).1 _ y X XW true h2 so.xo rfl) set_list (sub_asg h2)) (by unfold swapsWithSole; exact s1 _ _ _) (s2 _ _) rfl) fun D σ H q => ?_
      obtain ⟨w, w0, env, ks, rfl, fi, q⟩ := q
      have q : SatX X.K w0 ((ev C env e w.st).bind fun r s => (Rs.of (toA (fz r)) s).bind fun a s => (ev C env o s).bind fun x s => (ev C env kx s).bind fun y s => match x, y with
        | .v (.loc n), .v (.int j) => (Rs.of (wr s n fun l => (ixN l.length j).map fun m => l.set m a) s).bind fun s' _ => .ok (Fl.nx, env) s'
        | _, _ => .stuck) (EndS X.K w0 ks D) (xq G XW) := q
      refine st_frz fi q fun r w2 v fi2 e2 rv h => ?_
      obtain ⟨a, ha, h⟩ := h.bind.of_
      have ra := toA_ok rv ha
      refine st_raw fi2 h fun x w3 t fi3 e3 ok3 rx h => st_raw fi3 h fun y w4 u fi4 e4 ok4 ry h => ?_
      split at h
      · rename_i n j _
        obtain ⟨s', hs', h⟩ := h.bind.of_
        obtain ⟨l, l', q1, q2, rfl⟩ := wr_st hs'
        obtain ⟨m, q3, rfl⟩ := Option.map_eq_some_iff.mp q2
        have rx : RW X.K w4 (.loc n) t := RA.ext fi3.ok e4 rx
        obtain ⟨D1, vs, rfl, z1, z2, z3⟩ := loc_ok fi4.ok rx q1
        have ry : RW X.K w4 (.int j) u := ry
        cases ry
        refine ⟨D1, vs, j, m, rfl, rfl, z2, by rw [← z3.length]; exact q3, ?_⟩
        exact h (w4.wr n D1 (.lst (vs.set m v)) (.ct (.lst (l.set m a)))) _ rfl (fi4.storeC (c := .lst l) (c' := .lst (l.set m a)) q1 z1 z2 trivial (z3.set (RA.ext fi3.ok e4 (RA.ext fi2.ok e3 ra)) m))
      · exact (h : False).elim
    · cases h
  | _ => cases (show false = true from h)
theorem callE_no {nm : F → Option Str} {sc : Scope} {e : E F} {x : Expr} (h : okE nm cs N sc e x = true) (a : Str) (env : PySem.Env) : attributeBase x a env (eval x env) = eval x env := by
  cases x with
  | Call f xs kws p =>
    cases f with
    | Name g q =>
      match xs, kws, h with
      | [], [], h => cases e <;> cases (show false = true from h)
      | [], _ :: _, h => rfl
      | _ :: _, _, h => rfl
    | _ => rfl
  | _ => rfl
theorem gs_appL (o e : E F) : GoodS G C cs N k (.appL o e) := by
  intro sc ast X XW h so hsc
  cases ast with
  | Expr c p =>
    replace h : (match meth1 c with
      | some (x, a, ap, v, cp) => (ap.endLine == cp.line) && decide (a = ("append" : Str)) && okE G.nm cs N sc o x && okE G.nm cs N sc e v
      | none => false) = true := h
    split at h
    · rename_i x a ap v cp hm
      cases meth1_ok hm
      obtain ⟨h, h4⟩ := and_t h
      obtain ⟨h, h3⟩ := and_t h
      obtain ⟨h1, h2⟩ := and_t h
      have h2 := of_decide_eq_true h2
      subst hsc h2
      have hs := okE_star h4 [] X.env
      refine PS.weak (ps_expr (pe_bm PySem.F.plainAttrs_list PySem.F.slot_list_append PySem.F.type_list_append mt_append ((sndE G C cs N k o).1 _ x X XW true h3 so.xo rfl) (pa_cons ((sndE G C cs N k e).1 _ v X XW true h4 so.xo rfl) pa_nil hs) (callE_no h3 _ _) (few1 hs) h1 hs rfl) rfl) fun D σ H q => ?_
      obtain ⟨w, w0, env, ks, rfl, fi, q⟩ := q
      have q : SatX X.K w0 ((ev C env o w.st).bind fun x s => match isLoc s x with
        | some n => (ev C env e s).bind fun r s => (Rs.of (toA (fz r)) s).bind fun a s => (Rs.of (wr s n fun l => if l.length < sizeLine then some (l ++ [a]) else none) s).bind fun s' _ => .ok (Fl.nx, env) s'
        | none => .stuck) (EndS X.K w0 ks D) (xq G XW) := q
      show tEv G C X.K XW o σ w.H (fun x H1 => tyV X.K "list" x H1 ∧ tCons (tEv G C X.K XW e) tNil σ H1 (fun xs H2 => rAppend x xs H2 (fun _ H3 => D.nx σ H3)))
      refine st_raw fi q fun x w1 t fi1 e1 ok1 rx h => ?_
      split at h
      · rename_i n hn
        obtain ⟨l0, rfl, hl0⟩ : ∃ l0, x = .v (.loc n) ∧ w1.st.ob[n]? = some (.ct (.lst l0)) := by
          unfold isLoc at hn
          split at hn
          · split at hn
            · rename_i l q
              cases hn
              exact ⟨l, rfl, q⟩
            · cases hn
          · cases hn
        have rx : RW X.K w1 (.loc n) t := rx
        obtain ⟨D1, vs, rfl, z1, z2, z3⟩ := loc_ok fi1.ok rx hl0
        refine ⟨.inl ⟨rfl, _, SqL.of z2⟩, ?_⟩
        refine st_frz fi1 h fun r w2 v fi2 e2 rv h => ?_
        obtain ⟨a, ha, h⟩ := h.bind.of_
        obtain ⟨s', hs', h⟩ := h.bind.of_
        obtain ⟨l, l', q1, q2, rfl⟩ := wr_st hs'
        split at q2
        · rename_i hlen
          cases q2
          obtain ⟨D2, us, e3, y1, y2, y3⟩ := loc_ok fi2.ok (RA.ext fi1.ok e2 rx) q1
          cases e3
          refine ⟨D1, us, v, rfl, rfl, y2, by rw [← y3.length]; exact hlen, ?_⟩
          exact h (w2.wr n D1 (.lst (us ++ [v])) (.ct (.lst (l ++ [a])))) _ rfl (fi2.storeC (c := .lst l) (c' := .lst (l ++ [a])) q1 y1 y2 trivial (y3.append (.cons (toA_ok rv ha) .nil)))
        · cases q2
      · exact (h : False).elim
    · cases h
  | _ => cases (show false = true from h)
theorem gs_expr (e : E F) : GoodS G C cs N k (.expr e) := by
  intro sc ast X XW h so hsc
  cases ast with
  | Expr v p =>
    obtain ⟨h1, h2⟩ := and_t (show (isCall v && okE G.nm cs N sc e v) = true from h)
    subst hsc
    have hs : swapsWith v none p.line X.env = pure false := by
      cases v with
      | Call a b c d => rfl
      | _ => cases h1
    refine PS.weak (ps_expr ((sndE G C cs N k e).1 _ v X XW true h2 so.xo rfl) hs) fun D σ H q => ?_
    obtain ⟨w, w0, env, ks, rfl, fi, q⟩ := q
    exact st_raw fi q fun r w1 v fi1 e1 ok1 rv h => h w1 σ rfl fi1
  | _ => cases (show false = true from h)
theorem gs_ret (e : E F) : GoodS G C cs N k (.ret e) := by
  intro sc ast X XW h so hsc
  cases ast with
  | Return v p =>
    cases v with
    | none => cases (show false = true from h)
    | some v =>
      replace h : okE G.nm cs N sc e v = true := h
      subst hsc
      refine PS.weak (ps_ret ((sndE G C cs N k e).1 _ v X XW true h so.xo rfl)) fun D σ H q => ?_
      obtain ⟨w, w0, env, ks, rfl, fi, q⟩ := q
      refine st_raw fi q fun r w1 v fi1 e1 ok1 rv h => ?_
      cases r with
      | v a => exact h w1 v rfl fi1.ex fi1.ok rv
      | tl l => exact h w1 v rfl fi1.ex fi1.ok (rv.back fi.ex)
      | bo l => exact (h : False).elim
  | _ => cases (show false = true from h)
theorem gs_retV (i : Nat) : GoodS G C cs N k (.retV i) := by
  intro sc ast X XW h so hsc
  cases ast with
  | Return v p =>
    cases v with
    | none => cases (show false = true from h)
    | some v =>
      replace h : okE G.nm cs N sc (.var i) v = true := h
      subst hsc
      obtain ⟨y, q, rfl, hp⟩ := var_pe so.xo h
      refine PS.weak (ps_ret hp) fun D σ H q => ?_
      obtain ⟨w, w0, env, ks, rfl, fi, q⟩ := q
      have q : SatX X.K w0 (match env[i]? with
        | some (.own l) => Rs.ok (Fl.rt (.tl l), env) w.st
        | _ => .stuck) (EndS X.K w0 ks D) (xq G XW) := q
      split at q
      · rename_i l hi
        obtain ⟨a, z1, z2, z4, z5, z6⟩ := fi.en.own i l hi
        exact ⟨.ref a, z1, q w _ rfl fi.ex fi.ok ⟨a, rfl, z2, z4, z5, z6⟩⟩
      · exact (q : False).elim
  | _ => cases (show false = true from h)
theorem gs_retN : GoodS G C cs N k .retN := by
  intro sc ast X XW h so hsc
  cases ast with
  | Return v p =>
    cases v with
    | some v => cases (show false = true from h)
    | none =>
      refine PS.weak ps_retN fun D σ H q => ?_
      obtain ⟨w, w0, env, ks, rfl, fi, q⟩ := q
      exact q w .non rfl fi.ex fi.ok .non
  | _ => cases (show false = true from h)
theorem gs_never : GoodS G C cs N k .never := by
  intro sc ast X XW h so hsc
  exact PS.weak ps_never fun D σ H ⟨w, w0, env, ks, e, fi, q⟩ => q
theorem gs_ife (c : E F) {a b : Ss F} (ha : GoodSs G C cs N k a) (hb : GoodSs G C cs N k b) : GoodS G C cs N k (.ife c a b) := by
  intro sc ast X XW h so hsc
  cases ast with
  | If z x y p =>
    replace h : (tst c && okE G.nm cs N sc c z && okSs G.nm cs N sc a x && okSs G.nm cs N sc b y) = true := h
    obtain ⟨h, h4⟩ := and_t h
    obtain ⟨h, h3⟩ := and_t h
    obtain ⟨h1, h2⟩ := and_t h
    refine PS.weak (ps_if ((sndE G C cs N k c).2 h1 sc z X XW true h2 so.xo hsc) (ha sc x X XW h3 so hsc) (hb sc y X XW h4 so hsc)) fun D σ H q => ?_
    obtain ⟨w, w0, env, ks, rfl, fi, q⟩ := q
    refine ⟨w, w0, env, rfl, fi.ok, fi.en, (q.bind.sat fi.ex).imp fun r w1 ⟨e1, ok1, h1⟩ => ?_⟩
    obtain ⟨d, hd, h2⟩ := h1.bind.of_
    refine ⟨d, bl_of hd, ?_⟩
    cases d with
    | true => exact iteT ⟨w1, w0, env, ks, rfl, fi.step e1 ok1, h2⟩
    | false => exact iteF ⟨w1, w0, env, ks, rfl, fi.step e1 ok1, h2⟩
  | _ => cases (show false = true from h)
/-! ### blocks -/
theorem gss_nil : GoodSs G C cs N k .nil := by
  intro sc asts X XW h so hsc
  match asts, h with
  | [], h =>
    refine PSs.weak pss_nil fun D σ H q => ?_
    obtain ⟨w, w0, env, ks, rfl, fi, q⟩ := q
    exact q w σ rfl fi
  | _ :: _, h => cases (show false = true from h)
theorem gss_frz (i : Nat) {ss : Ss F} (hs : GoodSs G C cs N k ss) : GoodSs G C cs N k (.cons (.frz i) ss) := by
  intro sc asts X XW h so hsc
  replace h : okSs G.nm cs N sc ss asts = true := h
  refine PSs.weak (hs sc asts X XW h so hsc) fun D σ H q => ?_
  obtain ⟨w, w0, env, ks, rfl, fi, q⟩ := q
  have q : SatX X.K w0 ((match env[i]? with
    | some (.own c) => Rs.ok (Fl.nx, env.set i (.v c.av)) w.st
    | _ => .stuck).bind fun p s => match p.1 with
      | .nx => exs C p.2 ss s
      | .rt r => .ok (.rt r, p.2) s) (EndS X.K w0 ks D) (xq G XW) := q
  split at q
  · rename_i l hi
    obtain ⟨a, z1, _⟩ := fi.en.own i l hi
    obtain ⟨f2, r2⟩ := fi.free hi z1
    have f3 := f2.set i r2
    rw [List.set_set] at f3
    have li : i < σ.length := (List.getElem?_eq_some_iff.mp z1).1
    have e : σ.set i (some (.ref a)) = σ := by
      refine List.ext_getElem? fun j => ?_
      by_cases z : i = j
      · subst z
        rw [List.getElem?_set_self li, z1]
      · rw [List.getElem?_set_ne z]
    rw [e] at f3
    exact ⟨w.fr a, w0, _, ks, rfl, f3, q⟩
  · exact (q : False).elim
theorem gss_cons {s : S F} {ss : Ss F} (hf : ∀ i, s ≠ .frz i) (h1 : GoodS G C cs N k s) (hs : GoodSs G C cs N k ss) : GoodSs G C cs N k (.cons s ss) := by
  intro sc asts X XW h so hsc
  match asts, h with
  | [], h => cases s <;> first | (cases (show false = true from h)) | exact (hf _ rfl).elim
  | x :: xs, h =>
    have h : (okS G.nm cs N sc s x && okSs G.nm cs N sc ss xs) = true := by
      cases s <;> first | exact h | exact (hf _ rfl).elim
    obtain ⟨g1, g2⟩ := and_t h
    refine PSs.weak (pss_cons (h1 sc x X XW g1 so hsc) (hs sc xs X XW g2 so hsc)) fun D σ H q => ?_
    obtain ⟨w, w0, env, ks, rfl, fi, q⟩ := q
    refine ⟨w, w0, env, ks, rfl, fi, (SatX.bind q).imp fun p s h => ?_⟩
    obtain ⟨fl, env'⟩ := p
    cases fl with
    | nx => exact fun w' σ' hs' fi' => ⟨w', w0, env', ks, rfl, fi', by rw [hs']; exact h⟩
    | rt r => exact h
/-! ### while, parallel stores, dicts that a name owns -/
theorem gs_whl (c : E F) {b : Ss F} (hb : GoodSs G C cs N k b) : GoodS G C cs N k (.whl c b) := by
  intro sc ast X XW h so hsc
  cases ast with
  | While z x els p =>
    cases els with
    | cons _ _ => cases (show false = true from h)
    | nil =>
      replace h : (tst c && okE G.nm cs N sc c z && okSs G.nm cs N sc b x) = true := h
      obtain ⟨h, h3⟩ := and_t h
      obtain ⟨h1, h2⟩ := and_t h
      subst hsc
      refine PS.weak (ps_while so.hp ((sndE G C cs N k c).2 h1 _ z X XW true h2 so.xo rfl) (hb _ x X XW h3 so rfl)) fun D σ H q => ?_
      obtain ⟨w, w0, env, ks, rfl, fi, q⟩ := q
      have q : SatX X.K w0 (whlL (fun env s => (ev C env c s).bind fun r s => .of (bl? r) s) (fun env s => exs C env b s) 64 env w.st) (EndS X.K w0 ks D) (xq G XW) := q
      refine ⟨fun m σ H => ∃ wi envi, wi.H = H ∧ FI X.K w0 wi envi σ ks ∧ SatX X.K w0 (whlL (fun env s => (ev C env c s).bind fun r s => .of (bl? r) s) (fun env s => exs C env b s) m envi wi.st) (EndS X.K w0 ks D) (xq G XW), ⟨64, w, env, rfl, fi, q⟩, ?_⟩
      rintro m σ H ⟨wi, envi, rfl, fii, sat⟩
      cases m with
      | zero => exact (sat : False).elim
      | succ m =>
        have sat : SatX X.K w0 (((ev C envi c wi.st).bind fun r s => Rs.of (bl? r) s).bind fun k s => match k with
          | false => .ok (.nx, envi) s
          | true => (exs C envi b s).bind fun p s => match p.1 with
            | .nx => whlL (fun env s => (ev C env c s).bind fun r s => .of (bl? r) s) (fun env s => exs C env b s) m p.2 s
            | .rt r => .ok (.rt r, p.2) s) (EndS X.K w0 ks D) (xq G XW) := sat
        rw [Rs.bind_assoc] at sat
        refine ⟨wi, w0, envi, rfl, fii.ok, fii.en, (sat.bind.sat fii.ex).imp fun r w1 ⟨e1, ok1, h1⟩ => ?_⟩
        obtain ⟨d, hd, h2⟩ := h1.bind.of_
        refine ⟨d, bl_of hd, ?_⟩
        cases d with
        | true =>
          refine iteT ⟨fun σ' H' => ∃ wi envi, wi.H = H' ∧ FI X.K w0 wi envi σ' ks ∧ SatX X.K w0 (whlL (fun env s => (ev C env c s).bind fun r s => .of (bl? r) s) (fun env s => exs C env b s) m envi wi.st) (EndS X.K w0 ks D) (xq G XW), fun σ' H' hN => ⟨m, Nat.lt_succ_self m, hN⟩, w1, w0, envi, ks, rfl, fii.step e1 ok1, (SatX.bind h2).imp fun p s h => ?_⟩
          obtain ⟨fl, env'⟩ := p
          cases fl with
          | nx => exact fun w' σ'' hs' fi' => ⟨w', env', rfl, fi', by rw [hs']; exact h⟩
          | rt r => exact h
        | false => exact iteF (h2 w1 σ rfl (fii.step e1 ok1))
  | _ => cases (show false = true from h)
theorem gs_dputO (i : Nat) (kx e : E F) : GoodS G C cs N k (.dputO i kx e) := by
  intro sc ast X XW h so hsc
  cases ast with
  | Assign ts v p =>
    replace h : (match sub1 ts with
      | some (x, y, _) => okE G.nm cs N sc (.var i) x && okE G.nm cs N sc kx y && !isTupE v && okE G.nm cs N sc e v
      | none => false) = true := h
    split at h
    · rename_i x y p2 hn
      cases sub1_ok hn
      obtain ⟨h, h4⟩ := and_t h
      obtain ⟨h, h3⟩ := and_t h
      obtain ⟨h1, h2⟩ := and_t h
      subst hsc
      obtain ⟨s1, s2⟩ := isTupE_swaps h3
      obtain ⟨z, q, rfl, hp⟩ := var_pe so.xo h1
      have hu : X.A.units + 1 < cLine := by have := u65 so.xo.room; omega
      refine PS.weak (ps_dput hu hp ((sndE G C cs N k kx).1 _ y X XW true h2 so.xo rfl) ((sndE G C cs N k e).1 _ v X XW true h4 so.xo rfl) (s1 _ _ _)) fun D σ H q => ?_
      obtain ⟨w, w0, env, ks, rfl, fi, q⟩ := q
      have q : SatX X.K w0 ((ev C env e w.st).bind fun r s => (Rs.of (toA (fz r)) s).bind fun a s => match env[i]? with
        | some (.own (.dic ks l)) => (ev C env kx s).bind fun y s => match fz y with
          | .v y => (match keyA y with
            | some q => if l.length < sizeLine then .ok (Fl.nx, env.set i (.own (.dic (store ks l q a).1 (store ks l q a).2))) s else .stuck
            | none => .stuck)
          | _ => .stuck
        | _ => .stuck) (EndS X.K w0 ks D) (xq G XW) := q
      refine st_frz fi q fun r w2 v fi2 e2 rv h => ?_
      obtain ⟨a, ha, h⟩ := h.bind.of_
      have ra := toA_ok rv ha
      split at h
      · rename_i dk l hi
        obtain ⟨D1, y1, ⟨vs, y2, _⟩, _⟩ := fi2.en.own i _ hi
        refine ⟨.ref D1, y1, st_frz fi2 h fun y w3 u fi3 e3 ry h => ?_⟩
        split at h
        · rename_i ya hy
          split at h
          · rename_i qk hk
            split at h
            · rename_i hz
              obtain ⟨D', z1, ⟨vs', z2, zl, z3⟩, z4, z5, z6⟩ := fi3.en.own i _ hi
              rw [y1] at z1
              cases z1
              have z2 : w3.H D1 = some (.dK (dk.zip vs')) := z2
              have zl : dk.length = l.length := zl
              have z3 : RWs X.K w3 l vs' := z3
              rw [hy] at ry
              have hu' := keyA_ok hk (RW.rc ry)
              subst hu'
              obtain ⟨us', p1, p2, p3⟩ := store_ok qk zl z3 (RA.ext fi2.ok e3 ra)
              refine ⟨D1, _, rfl, DPut.k z2 (by rw [List.length_zip, zl, ← z3.length, Nat.min_self]; exact hz), ?_⟩
              rw [p1]
              exact h (w3.own D1 (.dK ((store dk l qk a).1.zip us'))) _ rfl (fi3.put (c' := .dic (store dk l qk a).1 (store dk l qk a).2) hi y1 p2 p3)
            · exact (h : False).elim
          · exact (h : False).elim
        · exact (h : False).elim
      · exact (h : False).elim
    · cases h
  | _ => cases (show false = true from h)
theorem m2_of {X : Cx} {o y z : Expr} {ap cp : Pos} {m : Str} {a b c : E F} (ho : okE G.nm cs N X.env.scope a o = true) (hy : okE G.nm cs N X.env.scope b y = true) (hz : okE G.nm cs N X.env.scope c z = true) (hl : (ap.endLine == cp.line) = true) : M2 X o m ap y z cp := m2_ok ho hy hz hl
theorem gs_dsetO (i : Nat) (kx e : E F) : GoodS G C cs N k (.dsetO i kx e) := by
  intro sc ast X XW h so hsc
  cases ast with
  | Expr c p =>
    replace h : (match meth2 c with
      | some (x, a, ap, v, u, cp) => (ap.endLine == cp.line) && decide (a = ("setdefault" : Str)) && okE G.nm cs N sc (.var i) x && okE G.nm cs N sc kx v && okE G.nm cs N sc e u
      | none => false) = true := h
    split at h
    · rename_i x a ap v u cp hm
      cases meth2_ok hm
      obtain ⟨h, h5⟩ := and_t h
      obtain ⟨h, h4⟩ := and_t h
      obtain ⟨h, h3⟩ := and_t h
      obtain ⟨h1, h2⟩ := and_t h
      have h2 := of_decide_eq_true h2
      subst hsc h2
      obtain ⟨y, q, rfl, hp⟩ := var_pe so.xo h3
      refine PS.weak (ps_expr (pe_dsetd hp ((sndE G C cs N k kx).1 _ v X XW true h4 so.xo rfl) ((sndE G C cs N k e).1 _ u X XW true h5 so.xo rfl) (m2_ok h3 h4 h5 h1)) rfl) fun D σ H q => ?_
      obtain ⟨w, w0, env, ks, rfl, fi, q⟩ := q
      have q : SatX X.K w0 (match env[i]? with
        | some (.own (.dic ks l)) => (ev C env kx w.st).bind fun y s => (ev C env e s).bind fun r s => (Rs.of (toA (fz r)) s).bind fun a s => match y with
          | .v y => (match keyA y with
            | some q => if l.length < sizeLine then (match look ks l q with
              | some _ => .ok (Fl.nx, env) s
              | none => .ok (Fl.nx, env.set i (.own (.dic (store ks l q a).1 (store ks l q a).2))) s) else .stuck
            | none => .stuck)
          | _ => .stuck
        | _ => .stuck) (EndS X.K w0 ks D) (xq G XW) := q
      split at q
      · rename_i dk l hi
        obtain ⟨D1, y1, ⟨vs, y2, _⟩, _⟩ := fi.en.own i _ hi
        refine ⟨.ref D1, y1, D1, rfl, .inl ⟨_, .inl y2⟩, ?_⟩
        refine st_raw fi q fun ya w1 u fi1 e1 ok1 ry h => st_frz fi1 h fun r w2 v fi2 e2 rv h => ?_
        obtain ⟨a, ha, h⟩ := h.bind.of_
        have ra := toA_ok rv ha
        split at h
        · split at h
          · rename_i qk hk
            split at h
            · rename_i hz
              obtain ⟨D', z1, ⟨vs', z2, zl, z3⟩, z4, z5, z6⟩ := fi2.en.own i _ hi
              rw [y1] at z1
              cases z1
              have z2 : w2.H D1 = some (.dK (dk.zip vs')) := z2
              have zl : dk.length = l.length := zl
              have z3 : RWs X.K w2 l vs' := z3
              have hu' := keyA_ok hk (RW.rc ry)
              subst hu'
              have hlen : (dk.zip vs').length < sizeLine := by rw [List.length_zip, zl, ← z3.length, Nat.min_self]; exact hz
              rcases look_ok qk zl z3 with ⟨l1, l2⟩ | ⟨x', z', l1, l2, _⟩
              · rw [l1] at h
                refine ⟨_, qk, z2, rfl, hlen, (fun v' hv => by rw [l2] at hv; cases hv), fun _ => ?_⟩
                obtain ⟨us', p1, p2, p3⟩ := store_ok qk zl z3 ra
                rw [p1]
                exact h (w2.own D1 (.dK ((store dk l qk a).1.zip us'))) _ rfl (fi2.put (c' := .dic (store dk l qk a).1 (store dk l qk a).2) hi y1 p2 p3)
              · rw [l1] at h
                exact ⟨_, qk, z2, rfl, hlen, (fun v' hv => h w2 _ rfl fi2), fun hn => by rw [l2] at hn; cases hn⟩
            · exact (h : False).elim
          · exact (h : False).elim
        · exact (h : False).elim
      · exact (q : False).elim
    · cases h
  | _ => cases (show false = true from h)
theorem par_pg {X : Cx} {XW : XK} {x y : Str} {px py pt : Pos} {kt : Nat} {i j : Nat} (xo : XOk G C cs N k X XW true) (h1 : nameB N true X.env.scope i (.Name x px) = true) (h2 : nameB N true X.env.scope j (.Name y py) = true) : PG X (.Tuple [.Name x px, .Name y py] kt pt) (gT X.K (.tp [i, j])) :=
  tg_pg (t := .tp [i, j]) (tg := .Tuple [.Name x px, .Name y py] kt pt) xo (by
    show (nameB N true X.env.scope i (.Name x px) && (nameB N true X.env.scope j (.Name y py) && true)) = true
    rw [h1, h2]; rfl)
theorem swapsL {x y : Str} {px py pt pt2 : Pos} {kt k2 : Nat} {a b : Expr} {env : PySem.Env} (hs : ([a, b].any fun | .Starred .. => true | _ => false) = false) (hn : (x == y) = false) (h : parL env.scope x px y py a b = true) :
    swappedStores [.Tuple [.Name x px, .Name y py] kt pt] (.Tuple [a, b] k2 pt2) env = pure (some [x, y]) := by
  unfold parL at h
  simp only [Bool.and_eq_true, Bool.not_eq_true'] at h
  obtain ⟨⟨⟨⟨⟨h1, h2⟩, h3⟩, h4⟩, h5⟩, h6⟩ := h
  have h1 : env.blockKind = .function := eq_of_beq h1
  have h2 : env.kindOf x = some .local := eq_of_beq h2
  have h3 : env.kindOf y = some .local := eq_of_beq h3
  have h4 : py.line = px.line := eq_of_beq h4
  have e1 : (env.blockKind != .function) = false := by rw [h1]; rfl
  have hnx : [x, y].eraseDups.length = 2 := by
    have : (y == x) = false := by rw [beq_eq_false_iff_ne] at hn ⊢; exact fun z => hn z.symm
    simp [List.eraseDups_cons, this]
  unfold swappedStores
  simp only [List.length_cons, List.length_nil, e1]
  simp [h2, h3, h4, hs, h5, h6, Expr.pos, hnx]
  intro z
  exfalso
  rw [List.any_cons, List.any_cons, List.any_nil, Bool.or_false, Bool.or_eq_false_iff] at hs
  rcases z with z | z
  · exact Bool.false_ne_true (hs.1.symm.trans z)
  · exact Bool.false_ne_true (hs.2.symm.trans z)
theorem swapsN {x y : Str} {px py pt pt2 : Pos} {kt k2 : Nat} {a b : Expr} {env : PySem.Env} (hs : ([a, b].any fun | .Starred .. => true | _ => false) = false) (h : parN env.scope x y = true) :
    swappedStores [.Tuple [.Name x px, .Name y py] kt pt] (.Tuple [a, b] k2 pt2) env = pure none := by
  unfold parN at h
  have h : ((env.kindOf x == some .local) && (env.kindOf y == some .local)) = false := by
    have := not_f h
    exact this
  unfold swappedStores
  simp only [List.length_cons, List.length_nil]
  cases e1 : (env.blockKind != .function) with
  | true => simp [e1]
  | false =>
    cases hx : (env.kindOf x == some .local) with
    | false =>
      simp [e1, hs, hx, Expr.pos]
      intro _ _ hl
      exfalso
      have hx' : ¬ env.kindOf x = some .local := by simpa using hx
      simp [List.filterMap_cons, hx'] at hl
      split at hl <;> simp at hl
    | true =>
      rw [hx] at h
      have hy : (env.kindOf y == some .local) = false := by simpa using h
      simp [e1, hs, hx, hy, Expr.pos]
      intro _ _ hl
      exfalso
      have hy' : ¬ env.kindOf y = some .local := by simpa using hy
      simp [List.filterMap_cons, hy'] at hl
      split at hl <;> simp at hl
theorem tEvs_mono {K : PySem.W.Frag} {XW : XK} {es : Es F} {σ : L2.St} {H : Hp} {Q Q' : List V → Hp → Prop} (h : tEvs G C K XW es σ H Q) (k : ∀ vs H1, Q vs H1 → Q' vs H1) : tEvs G C K XW es σ H Q' := by
  obtain ⟨w, w0, env, rfl, ok, en, q⟩ := h
  exact ⟨w, w0, env, rfl, ok, en, q.imp fun rs w' q vs rr => k _ _ (q vs rr)⟩
theorem gs_par (i j : Nat) (a b : E F) : GoodS G C cs N k (.par i j a b) := by
  intro sc ast X XW h so hsc
  cases ast with
  | Assign ts v p =>
    replace h : (match par2 ts v with
      | some (x, px, y, py, _, _, e, f, _, _) => decide (i ≠ j) && nameB N true sc i (.Name x px) && nameB N true sc j (.Name y py) && okEs G.nm cs N sc (.cons a (.cons b .nil)) [e, f] && (parL sc x px y py e f || parN sc x y)
      | none => false) = true := h
    split at h
    · rename_i x px y py kt pt e f k2 pt2 hm
      obtain ⟨rfl, rfl⟩ := par2_ok hm
      obtain ⟨h, h5⟩ := and_t h
      obtain ⟨h, h4⟩ := and_t h
      obtain ⟨h, h3⟩ := and_t h
      obtain ⟨h1, h2⟩ := and_t h
      have h1 := of_decide_eq_true h1
      subst hsc
      obtain ⟨_, _, e1, hi, hx, hf⟩ := name_ok so.xo h2
      cases e1
      obtain ⟨_, _, e1, hj, hy, hg⟩ := name_ok so.xo h3
      cases e1
      have hpa := (sndEs G C cs N k (.cons a (.cons b .nil))).1 _ [e, f] X XW true h4 so.xo rfl
      have hne : (x == y) = false := by
        refine beq_eq_false_iff_ne.mpr fun z => h1 ?_
        subst z
        exact (List.getElem?_inj (List.getElem?_eq_some_iff.mp hi).1 so.xo.nd).mp (hi.trans hj.symm)
      have hst : ([e, f].any fun | .Starred .. => true | _ => false) = false := by
        obtain ⟨g1, g2⟩ := and_t (show (okE G.nm cs N X.env.scope a e && (okE G.nm cs N X.env.scope b f && true)) = true from h4)
        obtain ⟨g2, _⟩ := and_t g2
        have ne : ∀ {a : E F} {e : Expr}, okE G.nm cs N X.env.scope a e = true → (match e with | .Starred .. => true | _ => false) = false := fun {a e} h => by
          cases e with
          | Starred v p => cases a <;> cases (show false = true from h)
          | _ => rfl
        rw [List.any_cons, List.any_cons]
        simp [ne g1, ne g2]
      have q2 : ∀ {D : Ends} {w w0 : Wd} {env : Env} {ks : List (AV × V)} {σ : L2.St}, FI X.K w0 w env σ ks → SatX X.K w0 (ex C env (.par i j a b) w.st) (EndS X.K w0 ks D) (xq G XW) →
          tEvs G C X.K XW (.cons a (.cons b .nil)) σ w.H fun vs H1 => ∃ (x y : AV) (v u : V) (w2 : Wd), vs = [v, u] ∧ w2.H = H1 ∧ FI X.K w0 w2 env σ ks ∧ RW X.K w2 x v ∧ RW X.K w2 y u ∧ EndS X.K w0 ks D (.nx, (env.set i (.v x)).set j (.v y)) w2.st := fun {D w w0 env ks σ} fi q => by
        have q : SatX X.K w0 ((evs C env (.cons a (.cons b .nil)) w.st).bind fun rs s => match rs with
          | [.v x, .v y] => .ok (.nx, (env.set i (.v x)).set j (.v y)) s
          | _ => .stuck) (EndS X.K w0 ks D) (xq G XW) := q
        refine ⟨w, w0, env, rfl, fi.ok, fi.en, (q.bind.sat fi.ex).imp fun rs w1 ⟨e1, ok1, h1⟩ vs rr => ?_⟩
        split at h1
        · obtain ⟨v, u, rfl, r1, r2⟩ := pair2 rr
          exact ⟨_, _, v, u, w1, rfl, rfl, fi.step e1 ok1, r1, r2, h1⟩
        · exact (h1 : False).elim
      rcases Bool.or_eq_true_iff.mp h5 with h5 | h5
      · have lc : X.env.scope.names.lookup x = some .local ∧ X.env.scope.names.lookup y = some .local := by
          unfold parL at h5
          simp only [Bool.and_eq_true] at h5
          exact ⟨eq_of_beq h5.1.1.1.1.2, eq_of_beq h5.1.1.1.2⟩
        refine PS.weak (ps_par so.xo.hc so.xo.nd hi hj h1 lc.1 lc.2 hpa (swapsL hst hne h5) rfl) fun D σ H q => ?_
        obtain ⟨w, w0, env, ks, rfl, fi, q⟩ := q
        refine tEvs_mono (q2 fi q) fun vs H1 z => ?_
        obtain ⟨x, y, v, u, w2, rfl, rfl, f2, r1, r2, en⟩ := z
        exact ⟨v, u, rfl, en w2 _ rfl ((f2.set i r1).set j r2)⟩
      · refine PS.weak (ps_asg (pe_tup hpa) (par_pg so.xo h2 h3) rfl (swapsN hst h5) rfl) fun D σ H q => ?_
        obtain ⟨w, w0, env, ks, rfl, fi, q⟩ := q
        refine tEvs_mono (Q' := fun vs H1 => vs.length ≤ sizeLine ∧ ∀ p, H1 p = none → gT X.K (.tp [i, j]) (.ref p) σ (upd H1 p (.tup vs)) D.nx) (q2 fi q) fun vs H1 z => ?_
        obtain ⟨x, y, v, u, w2, rfl, rfl, f2, r1, r2, en⟩ := z
        refine ⟨by show 2 ≤ sizeLine; decide, fun p hp => ?_⟩
        have e1 := Ext.laid (w := w2) (o := .tup [v, u]) hp
        have ok1 := f2.ok.laid (o := .tup [v, u]) hp
        have f3 := f2.step e1 ok1
        refine gT_ok (K := X.K) (t := .tp [i, j]) (w := ⟨w2.ro, w2.fb, w2.st, upd w2.H p (.tup [v, u])⟩) (a := .tup [x, y]) (env1 := (env.set i (.v x)).set j (.v y)) rfl f3.en (res_tup f2.ok hp (.cons r1 (.cons r2 .nil))) fun σ' en' _ => ?_
        exact en _ σ' rfl ⟨f3.d0, f3.ex, f3.ok, en', f3.kv⟩
    · cases h
  | _ => cases (show false = true from h)
end
end EV

set_option maxRecDepth 100000
set_option maxHeartbeats 2000000
namespace EV
open PySem PySem.Spec PyProof.Rows L2 RT RZ
section
variable {F : Type} {G : Glo F} {C : Cf F} {cs : Cn} {N : List Str} {k : Nat}
theorem gs_for (t : Tg) (it : It F) {b : Ss F} (hb : GoodSs G C cs N k b) : GoodS G C cs N k (.for_ t it b) := by
  intro sc ast X XW h so hsc
  cases ast with
  | For tg iter body els p =>
    cases els with
    | cons _ _ => cases (show false = true from h)
    | nil =>
      replace h : (tgB N true sc t tg && okI G.nm cs N sc it iter && okSs G.nm cs N sc b body && itTg it tg) = true := h
      obtain ⟨h, h4⟩ := and_t h
      obtain ⟨h, h3⟩ := and_t h
      obtain ⟨h1, h2⟩ := and_t h
      subst hsc
      refine PS.weak (ps_for so.hp so.xo.hc (sndI G C cs N k it _ tg iter X XW true h2 h4 so.xo rfl) (tg_pg so.xo h1) (hb _ body X XW h3 so rfl) (fun x => okI_iter h2 X.env x)) fun D σ H q => ?_
      obtain ⟨w, w0, env, ks, rfl, fi, q⟩ := q
      have q : SatX X.K w0 ((evi C env it w.st).bind fun l s => forL (fun env x s => (Rs.of (setT env t x) s).bind fun env s => exs C env b s) l env s) (EndS X.K w0 ks D) (xq G XW) := q
      refine ⟨w, w0, env, rfl, fi.ok, fi.en, (q.bind.sat fi.ex).imp fun l w1 ⟨e1, ok1, h1⟩ w2 ks2 J eS e2 ok2 kv wa => ?_⟩
      obtain ⟨Gp, Y, wk, wG, wI⟩ := wa
      rw [← eS] at h1
      generalize hf : (fun (env : Env) (x : AV) (s : Sto) => (Rs.of (setT env t x) s).bind fun env s => exs C env b s) = f at h1
      refine for_it wk (fun i σ H => ∃ wi envi, wi.H = H ∧ FI X.K w0 wi envi σ (ks2 ++ ks) ∧ SatX X.K w0 (forL f (l.drop i) envi wi.st) (EndS X.K w0 ks D) (xq G XW)) ?_ ?_ ?_ ?_
      · have f2 := fi.step e2 ok2
        exact ⟨w2, env, rfl, ⟨f2.d0, f2.ex, f2.ok, f2.en, fun p hp => (List.mem_append.mp hp).elim (kv p) (f2.kv p)⟩, h1⟩
      · rintro i σ H hi ⟨wi, envi, rfl, fii, _⟩
        exact wG wi fii.ok fun p hp => fii.kv p (List.mem_append_left _ hp)
      · rintro i x σ H H' hi ⟨wi, envi, rfl, fii, sat⟩ y
        obtain ⟨a, w3, ha, rfl, eS3, e4, ok4, rx⟩ := wI i x H' wi hi fii.ok (fun p hp => fii.kv p (List.mem_append_left _ hp)) y
        have hdrop : l.drop i = a :: l.drop (i + 1) := by
          obtain ⟨hlt, hget⟩ := List.getElem?_eq_some_iff.mp ha
          rw [List.drop_eq_getElem_cons hlt, hget]
        rw [hdrop] at sat
        have hfa : f envi a wi.st = (Rs.of (setT envi t a) wi.st).bind fun env s => exs C env b s := by rw [← hf]
        replace sat : SatX X.K w0 ((f envi a wi.st).bind fun p s => match p.1 with
          | .nx => forL f (l.drop (i + 1)) p.2 s
          | .rt r => .ok (.rt r, p.2) s) (EndS X.K w0 ks D) (xq G XW) := sat
        rw [hfa] at sat
        cases hs : setT envi t a with
        | none => rw [hs] at sat; exact (sat : False).elim
        | some env1 =>
          rw [hs, ← eS3] at sat
          have f3 := fii.step e4 ok4
          refine gT_ok hs f3.en rx fun σ' en' _ => ?_
          have sat : SatX X.K w0 ((exs C env1 b w3.st).bind fun p s => match p.1 with
            | .nx => forL f (l.drop (i + 1)) p.2 s
            | .rt r => .ok (.rt r, p.2) s) (EndS X.K w0 ks D) (xq G XW) := sat
          refine ⟨w3, w0, env1, ks2 ++ ks, rfl, ⟨f3.d0, f3.ex, f3.ok, en', f3.kv⟩, (SatX.bind sat).imp fun p s h => ?_⟩
          obtain ⟨fl, env'⟩ := p
          cases fl with
          | nx => exact fun w' σ'' hs' fi' => ⟨w', env', rfl, fi', by rw [hs']; exact h⟩
          | rt r => exact h
      · rintro σ H ⟨wi, envi, rfl, fii, sat⟩
        rw [List.drop_length] at sat
        exact sat wi σ rfl ⟨fii.d0, fii.ex, fii.ok, fii.en, fun p hp => fii.kv p (List.mem_append_right _ hp)⟩
  | _ => cases (show false = true from h)
theorem gs_frz (i : Nat) : GoodS G C cs N k (.frz i) := by
  intro sc ast X XW h so hsc
  cases ast <;> cases (show false = true from h)
mutual
theorem sndS (G : Glo F) (C : Cf F) (cs : Cn) (N : List Str) (k : Nat) : ∀ s : S F, GoodS G C cs N k s
  | .set i e => gs_set i e
  | .own i e => gs_own i e
  | .heap i e => gs_heap i e
  | .unp is e => gs_unp is e
  | .mv i j => gs_mv i j
  | .frz i => gs_frz i
  | .app i e => gs_app i e
  | .ext i e => gs_ext i e
  | .putO i k e => gs_putO i k e
  | .putL a k e => gs_putL a k e
  | .appL a e => gs_appL a e
  | .expr e => gs_expr e
  | .ret e => gs_ret e
  | .retV i => gs_retV i
  | .retN => gs_retN
  | .ife c a b => gs_ife c (sndSs G C cs N k a) (sndSs G C cs N k b)
  | .for_ t it b => gs_for t it (sndSs G C cs N k b)
  | .whl c b => gs_whl c (sndSs G C cs N k b)
  | .par i j a b => gs_par i j a b
  | .dputO i x e => gs_dputO i x e
  | .dsetO i x e => gs_dsetO i x e
  | .never => gs_never
theorem sndSs (G : Glo F) (C : Cf F) (cs : Cn) (N : List Str) (k : Nat) : ∀ s : Ss F, GoodSs G C cs N k s
  | .nil => gss_nil
  | .cons (.frz i) ss => gss_frz i (sndSs G C cs N k ss)
  | .cons (.set i e) ss => gss_cons (fun _ z => nomatch z) (gs_set i e) (sndSs G C cs N k ss)
  | .cons (.own i e) ss => gss_cons (fun _ z => nomatch z) (gs_own i e) (sndSs G C cs N k ss)
  | .cons (.heap i e) ss => gss_cons (fun _ z => nomatch z) (gs_heap i e) (sndSs G C cs N k ss)
  | .cons (.unp is e) ss => gss_cons (fun _ z => nomatch z) (gs_unp is e) (sndSs G C cs N k ss)
  | .cons (.mv i j) ss => gss_cons (fun _ z => nomatch z) (gs_mv i j) (sndSs G C cs N k ss)
  | .cons (.app i e) ss => gss_cons (fun _ z => nomatch z) (gs_app i e) (sndSs G C cs N k ss)
  | .cons (.ext i e) ss => gss_cons (fun _ z => nomatch z) (gs_ext i e) (sndSs G C cs N k ss)
  | .cons (.putO i x e) ss => gss_cons (fun _ z => nomatch z) (gs_putO i x e) (sndSs G C cs N k ss)
  | .cons (.putL a x e) ss => gss_cons (fun _ z => nomatch z) (gs_putL a x e) (sndSs G C cs N k ss)
  | .cons (.appL a e) ss => gss_cons (fun _ z => nomatch z) (gs_appL a e) (sndSs G C cs N k ss)
  | .cons (.expr e) ss => gss_cons (fun _ z => nomatch z) (gs_expr e) (sndSs G C cs N k ss)
  | .cons (.ret e) ss => gss_cons (fun _ z => nomatch z) (gs_ret e) (sndSs G C cs N k ss)
  | .cons (.retV i) ss => gss_cons (fun _ z => nomatch z) (gs_retV i) (sndSs G C cs N k ss)
  | .cons .retN ss => gss_cons (fun _ z => nomatch z) gs_retN (sndSs G C cs N k ss)
  | .cons (.ife c a b) ss => gss_cons (fun _ z => nomatch z) (gs_ife c (sndSs G C cs N k a) (sndSs G C cs N k b)) (sndSs G C cs N k ss)
  | .cons (.for_ t it b) ss => gss_cons (fun _ z => nomatch z) (gs_for t it (sndSs G C cs N k b)) (sndSs G C cs N k ss)
  | .cons (.whl c b) ss => gss_cons (fun _ z => nomatch z) (gs_whl c (sndSs G C cs N k b)) (sndSs G C cs N k ss)
  | .cons (.par i j a b) ss => gss_cons (fun _ z => nomatch z) (gs_par i j a b) (sndSs G C cs N k ss)
  | .cons (.dputO i x e) ss => gss_cons (fun _ z => nomatch z) (gs_dputO i x e) (sndSs G C cs N k ss)
  | .cons (.dsetO i x e) ss => gss_cons (fun _ z => nomatch z) (gs_dsetO i x e) (sndSs G C cs N k ss)
  | .cons .never ss => gss_cons (fun _ z => nomatch z) gs_never (sndSs G C cs N k ss)
end
end
end EV

set_option maxRecDepth 100000
set_option maxHeartbeats 2000000
namespace EV
open PySem PySem.Spec PyProof.Rows L2 RT RZ
section
variable {F : Type}
/-- what the kernel checks of one def -/
def defOk (nm : F → Option Str) (cs : Cn) (ps N : List Str) (sc : Scope) (fn : Fn F) (body : List Stmt) : Bool :=
  decide (sc.kind = .function) && !sc.isCoroutine && !sc.isGenerator && decide N.Nodup && decide (N.take ps.length = ps)
  && (ps.all fun x => decide (sc.names.lookup x = some .local) || decide (sc.names.lookup x = some .cell))
  && (sc.names.all fun y => !decide (y.2 = .free))
  && decide (fn.ps = ps.length) && decide (fn.ns = N.length) && okSs nm cs N sc fn.body body
theorem defOk_sc {nm : F → Option Str} {cs : Cn} {ps N : List Str} {sc : Scope} {fn : Fn F} {body : List Stmt} (h : defOk nm cs ps N sc fn body = true) : FnScope N ps sc ∧ fn.ps = ps.length ∧ fn.ns = N.length ∧ okSs nm cs N sc fn.body body = true := by
  unfold defOk at h
  obtain ⟨h, h10⟩ := and_t h
  obtain ⟨h, h9⟩ := and_t h
  obtain ⟨h, h8⟩ := and_t h
  obtain ⟨h, h7⟩ := and_t h
  obtain ⟨h, h6⟩ := and_t h
  obtain ⟨h, h5⟩ := and_t h
  obtain ⟨h, h4⟩ := and_t h
  obtain ⟨h, h3⟩ := and_t h
  obtain ⟨h1, h2⟩ := and_t h
  refine ⟨⟨of_decide_eq_true h1, not_f h2, not_f h3, of_decide_eq_true h4, of_decide_eq_true h5, fun x hx => ?_, fun y hy e => ?_⟩, of_decide_eq_true h8, of_decide_eq_true h9, h10⟩
  · have := List.all_eq_true.mp h6 x hx
    rcases Bool.or_eq_true_iff.mp this with q | q
    · exact .inl (of_decide_eq_true q)
    · exact .inr (of_decide_eq_true q)
  · have := List.all_eq_true.mp h7 y hy
    rw [decide_eq_true e] at this
    cases this
theorem rep_no {m j : Nat} {x : Sl} (h : (List.replicate m Sl.no)[j]? = some x) : x = .no := (List.mem_replicate.mp (List.mem_of_getElem? h)).2
/-- a def's entry -/
theorem enter {K : PySem.W.Frag} {w : Wd} {N : List Str} {l : List AV} {vs : List V} {n : Nat} (h : RWs K w l vs) (hn : n = N.length) (hl : vs.length ≤ N.length) : REnv K w w (l.map .v ++ List.replicate (n - vs.length) .no) (L2.start N vs) := by
  have hlen := h.length
  refine ⟨by unfold L2.start; simp [hn, hlen], fun i a q => ?_, fun i m q => ?_, fun i j m m' a q _ _ _ => ?_⟩
  · by_cases hi : i < (l.map Sl.v).length
    · rw [List.getElem?_append_left hi] at q
      rw [List.getElem?_map] at q
      cases e : l[i]? with
      | none => rw [e] at q; cases q
      | some b =>
        rw [e] at q
        cases q
        obtain ⟨v, h1, h2⟩ := h.get e
        refine ⟨v, ?_, h2⟩
        unfold L2.start
        rw [List.getElem?_append_left (by rw [List.length_map]; exact (List.getElem?_eq_some_iff.mp h1).1), List.getElem?_map, h1]
        rfl
    · rw [List.getElem?_append_right (Nat.le_of_not_lt hi)] at q
      cases rep_no q
  · by_cases hi : i < (l.map Sl.v).length
    · rw [List.getElem?_append_left hi, List.getElem?_map] at q
      cases e : l[i]? with
      | none => rw [e] at q; cases q
      | some b => rw [e] at q; cases q
    · rw [List.getElem?_append_right (Nat.le_of_not_lt hi)] at q
      cases rep_no q
  · by_cases hi : i < (l.map Sl.v).length
    · rw [List.getElem?_append_left hi, List.getElem?_map] at q
      cases e : l[i]? with
      | none => rw [e] at q; cases q
      | some b => rw [e] at q; cases q
    · rw [List.getElem?_append_right (Nat.le_of_not_lt hi)] at q
      cases rep_no q
end
section
variable {F : Type} {P : Program} {w : World} {K : PySem.W.Frag} {mg : Str → Option Value} {base : Heap} {cs : Cn}
/-- the defs of a row, each by its text -/
structure Tab (F : Type) where
  st : F → Stmt
  nm : F → Option Str
  ps : F → List Str
  N : F → List Str
  tb : F → Fn F
theorem call_len {F : Type} (tb : F → Fn F) (d : Nat) (f : F) (l : List AV) (s : Sto) (h : call tb d f l s ≠ .stuck) : l.length = (tb f).ps := by
  cases d with
  | zero => exact absurd rfl h
  | succ d =>
    refine Decidable.byContradiction fun q => h ?_
    unfold call
    rw [if_neg q]
theorem fnsOk (T : Tab F) (G : Glo F) (hps : ∀ f, G.ps f = T.ps f) (hnm : ∀ f, G.nm f = T.nm f)
    (chk : ∀ f g, T.nm f = some g → defOk T.nm cs (T.ps f) (T.N f) (L2.defScope (T.st f)) (T.tb f) (L2.defBody (T.st f)) = true)
    (hF : ∀ f g, T.nm f = some g → FunD K g g (L2.defArgs (T.st f)) (L2.defBody (T.st f)) (L2.defScope (T.st f)) [] [] (G.adr f) (G.fd f))
    (mgf : ∀ f g, T.nm f = some g → mg g = some (.ref (G.adr f)))
    (bd : ∀ f g, T.nm f = some g → Binds K (G.fd f) (T.ps f) [])
    (blt : ∀ x ∈ bNames, mg x = none)
    (cst : ∀ x c, cs.c.lookup x = some c → (∃ i t, c = .int i ∧ mg x = some (.int i t)) ∨ ∃ y t, c = .str y ∧ mg x = some (.str y t))
    (dts : ∀ x t, cs.d.lookup x = some t → ∃ a, mg x = some (.ref a) ∧ GetD K w a t)
    (tps : ∀ x l, cs.t.lookup x = some l → ∃ a, mg x = some (.ref a) ∧ ∀ H, SqT K H a (l.map V.str)) :
    ∀ (d : Nat) (f : F) (g : Str), T.nm f = some g → FnOk P w K mg base (L2.CX P w) d (G.adr f) (G.fd f) (G.ps f) (spF K G (call T.tb d) f)
  | 0, f, g, hg => ⟨fun vs H Q E h => h.1, fun A outer s H args us vs Q E hr he hb hv h => by
      obtain ⟨_, w0, l, rfl, ok, rw_, sat⟩ := h
      exact (sat : False).elim⟩
  | d + 1, f, g, hg => by
    have IH := fnsOk T G hps hnm chk hF mgf bd blt cst dts tps d
    obtain ⟨hs, h1, h2, h3⟩ := defOk_sc (chk f g hg)
    have hnm' : G.nm = T.nm := funext hnm
    rw [hps f]
    refine (hF f g hg).ok hs (fun vs H Q E h => by rw [← hps f]; exact h.1) fun cdv A outer s H vs Q E hr h => ?_
    refine ⟨_, sndSs G (call T.tb d) cs (T.N f) d (T.tb f).body (L2.defScope (T.st f)) _ _ E (by rw [hnm']; exact h3) ⟨⟨rfl, rfl, hs.nd, hr, takes_of rfl rfl rfl rfl, fun f g z => IH f g (by rw [← hnm f]; exact z), fun f g z => mgf f g (by rw [← hnm f]; exact z), fun f g z => (hF f g (by rw [← hnm f]; exact z)).kp, fun f g z => by rw [hps f]; exact bd f g (by rw [← hnm f]; exact z), fun f g l s z q => by rw [hps f, ← (defOk_sc (chk f g (by rw [← hnm f]; exact z))).2.1]; exact call_len _ _ _ _ _ q, blt, cst, dts, tps, fun _ _ => rfl⟩, passes_of rfl⟩ rfl, ?_⟩
    obtain ⟨hl, w0, l, rfl, ok, rws, sat⟩ := h
    rw [hps f] at hl
    have hlen := rws.length
    have hlen' : l.length = (T.tb f).ps := by rw [hlen, hl, h1]
    have ec : call T.tb (d + 1) f l w0.st = (exs (call T.tb d) (l.map .v ++ List.replicate ((T.tb f).ns - (T.tb f).ps) .no) (T.tb f).body w0.st).bind fun p s => match p.1 with
      | .nx => .ok (.v .non) s
      | .rt r => .ok r s := by
      show (if l.length = (T.tb f).ps then _ else _) = _
      exact (if_pos hlen').trans rfl
    rw [ec] at sat
    have hpre : (T.ps f).length ≤ (T.N f).length := by
      have := congrArg List.length hs.pre
      rw [List.length_take] at this
      omega
    refine ⟨w0, w0, _, [], rfl, ⟨ok.dom, Ext.refl w0, ok, enter (n := (T.tb f).ns) rws h2 (by rw [hl]; exact hpre), fun _ h => by cases h⟩, ?_⟩
    rw [hl, ← h1]
    generalize hx : exs (call T.tb d) (l.map .v ++ List.replicate ((T.tb f).ns - (T.tb f).ps) .no) (T.tb f).body w0.st = r at sat
    cases r with
    | stuck => exact sat
    | exc c fs s => exact sat
    | ok p s =>
      obtain ⟨fl, env⟩ := p
      cases fl with
      | nx => exact fun w' σ' hs' fi => sat w' hs' fi.ex fi.ok _ RA.non
      | rt r => exact fun w' v hs' e ok' rr => sat w' hs' e ok' v rr
end
end EV

set_option maxRecDepth 100000
set_option maxHeartbeats 2000000
namespace EV
open PySem PySem.Spec PyProof.Rows L2
def mkD (x : Str) (s : Stmt) : He.DefD := ⟨(x, none), x, x, defArgs s, defBody s, defScope s, [], []⟩
section
variable {F : Type} {fa : List He.Fa} {fn : List He.DefD} {cs : Cn}
theorem lookup_mem {A : Type} {x : Str} {a : A} : ∀ {l : List (Str × A)}, l.lookup x = some a → (x, a) ∈ l
  | (y, b) :: l, h => by
    unfold List.lookup at h
    split at h
    · rename_i e
      have := eq_of_beq e
      subst this
      cases h
      exact List.mem_cons_self ..
    · exact List.mem_cons_of_mem _ (lookup_mem h)
/-- the law's plain law at its start -/
theorem sp_law {K : PySem.W.Frag} {G : Glo F} {C : Cf F} {f : F} (hl : (G.ps f).length = 1) {ns : List Int} (h : ∃ s, C f [.scr ns] ⟨0, []⟩ = .ok (.v (.bl true)) s) {H : Hp} {a : Addr} (hO : Only H) (hS : SqL K H a (ns.map V.int)) :
    spF K G C f [.ref a] H (fun v _ => v = .bl true) fun _ _ _ => False := by
  obtain ⟨s, e⟩ := h
  have hs : ScrAt K H a (ns.map V.int) := by
    rcases hS with (h | h) | h
    · rcases hO a with q | ⟨o, xs, q⟩
      · rw [h] at q; cases q
      · rw [h] at q; cases q
    · exact .inl h
    · exact .inr h
  refine ⟨hl.symm, ⟨[], [], ⟨0, []⟩, H⟩, [.scr ns], rfl, ⟨fun _ h => by simp at h, fun _ h => by simp at h, by simp, rfl, fun n o a h => by simp at h⟩, .cons (.scr hs) .nil, ?_⟩
  rw [e]
  intro w' _ _ _ v hv
  cases hv
  rfl
def CXA : CXT := fun outer H s E u s' => ∃ (P : Program) (w : World), L2.CX P w outer H s E u s'
theorem cx_no (H : Hp) (s : Shared) (e : Value) (s' : Shared) (h : CXA [] H s (fun _ _ _ => False) e s') : False := by
  obtain ⟨_, _, _, _, _, _, _, _, _, _, _, _, _, _, q⟩ := h
  exact q
theorem fn_cx {P : Program} {w : World} {K : PySem.W.Frag} {mg : Str → Option Value} {base : Heap} {k : Nat} {f : Addr} {fd : FuncData} {ps : List Str} {sp : Sp} (h : FnOk P w K mg base (L2.CX P w) k f fd ps sp) : FnOk P w K mg base CXA k f fd ps sp :=
  ⟨h.len, fun A outer s H args us vs Q E hr he hb hv q => codeAny_mono (h.run A outer s H args us vs Q E hr he hb hv q) fun r s' x => by
    cases r with
    | ok z => cases z <;> exact x
    | error e => exact ⟨P, w, x⟩⟩
theorem facts (T : Tab F) (law : F) (lx : Str) (hlx : T.nm law = some lx) (k : Nat) {P : Program} {w : World} {K : PySem.W.Frag} {h : Heap} {mg : Str → Option Value} {f : Addr} (X : K.In h) (G : h.Ns mainGlobals mg) (hfa : mg lx = some (.ref f)) (c : He.SaysD fa fn K)
    (chk : ∀ f g, T.nm f = some g → defOk T.nm cs (T.ps f) (T.N f) (L2.defScope (T.st f)) (T.tb f) (L2.defBody (T.st f)) = true)
    (hfn : ∀ f g, T.nm f = some g → ∃ i : Nat, fn[i]? = some (mkD g (T.st f)))
    (hgl : ∀ f g, T.nm f = some g → ∃ i : Nat, fa[i]? = some (.glo g))
    (hfr : ∀ x ∈ bNames, ∃ i : Nat, fa[i]? = some (.free x))
    (hcs : ∀ p ∈ cs.c, ∃ i : Nat, (∃ n, p.2 = .int n ∧ fa[i]? = some (.int p.1 n)) ∨ ∃ y, p.2 = .str y ∧ fa[i]? = some (.str p.1 y))
    (hds : ∀ x t, cs.d.lookup x = some t → ∃ a, mg x = some (.ref a) ∧ GetD K w a t)
    (hts : ∀ x l, cs.t.lookup x = some l → ∃ a, mg x = some (.ref a) ∧ ∀ H, SqT K H a (l.map V.str))
    (hb : ∀ (f : F) (g : Str), T.nm f = some g → ∀ (kV doc pm : Value) (an : Option Addr) (cdv ct : Value) (us : List Value), us.length = (T.ps f).length → bindArgs (PySem.W.fnOf g g (L2.defArgs (T.st f)) (L2.defBody (T.st f)) (L2.defScope (T.st f)) .none kV doc pm an cdv ct) ⟨us, []⟩ = pure ((T.ps f).zip us)) :
    ∃ (G : Glo F) (fd : FuncData), (∀ f, G.ps f = T.ps f) ∧ (∀ (s : Shared) (us : List Value), us.length = (T.ps law).length → BindsTo s fd ⟨us, []⟩ ((T.ps law).zip us)) ∧ ∀ base : Heap, K.In base → base.Ns mainGlobals mg → FnOk P w K mg base CXA k f fd (T.ps law) (spF K G (call T.tb k) law) := by
  have h1 : ∀ f : F, ∃ fd, ∀ g, T.nm f = some g → FunD K g g (L2.defArgs (T.st f)) (L2.defBody (T.st f)) (L2.defScope (T.st f)) [] [] (He.ga K g) fd := fun f => by
    cases e : T.nm f with
    | none => exact ⟨⟨"", "", default, default, default, default, default, default, default, default, default, default, default, default, default⟩, fun _ z => by cases z⟩
    | some g =>
      obtain ⟨i, hi⟩ := hfn f g e
      obtain ⟨fd, hd⟩ := c.def_ i hi
      exact ⟨fd, fun g' z => by cases z; exact hd⟩
  obtain ⟨fd, hF⟩ := Classical.skolem.mp h1
  have hgo : ∀ f g, T.nm f = some g → mg g = some (.ref (He.ga K g)) := fun f g e => by
    obtain ⟨i, hi⟩ := hgl f g e
    exact He.glo_ok X G (c.fact i hi)
  have e := hfa.symm.trans (hgo law lx hlx)
  cases e
  have hadr : ∀ f g, T.nm f = some g → He.ga K ((T.nm f).getD "") = He.ga K g := fun f g e => by rw [e]; rfl
  refine ⟨⟨fun g => He.ga K ((T.nm g).getD ""), fd, T.ps, T.nm, fun _ => 0⟩, fd law, fun _ => rfl, (hF law lx hlx).bindsA (hb law lx hlx), fun base _ _ => ?_⟩
  have r := fnsOk (P := P) (w := w) (base := base) (mg := mg) (cs := cs) T ⟨fun g => He.ga K ((T.nm g).getD ""), fd, T.ps, T.nm, fun _ => 0⟩ (fun _ => rfl) (fun _ => rfl) chk (fun f g e => by
    show FunD K g g _ _ _ [] [] (He.ga K ((T.nm f).getD "")) (fd f)
    rw [hadr f g e]; exact hF f g e) (fun f g e => by
    show mg g = some (.ref (He.ga K ((T.nm f).getD "")))
    rw [hadr f g e]; exact hgo f g e) (fun f g e => (hF f g e).bindsN (hb f g e)) (fun x hx => by
    obtain ⟨i, hi⟩ := hfr x hx
    exact He.free_ok X G (c.fact i hi)) (fun x d hd => by
    obtain ⟨i, ⟨n, e, hi⟩ | ⟨y, e, hi⟩⟩ := hcs (x, d) (lookup_mem hd)
    · obtain ⟨t, ht⟩ := He.int_ok X G (c.fact i hi)
      exact .inl ⟨n, t, e, ht⟩
    · obtain ⟨t, ht⟩ := He.str_ok X G (c.fact i hi)
      exact .inr ⟨y, t, e, ht⟩) hds hts k law lx hlx
  have r2 : FnOk P w K mg base (L2.CX P w) k (He.ga K ((T.nm law).getD "")) (fd law) (T.ps law) (spF K ⟨fun g => He.ga K ((T.nm g).getD ""), fd, T.ps, T.nm, fun _ => 0⟩ (call T.tb k) law) := r
  rw [hadr law lx hlx] at r2
  exact fn_cx r2
end
end EV

set_option maxRecDepth 100000
set_option maxHeartbeats 2000000
/-! the head's hook: facts, defs, written dicts, written tuples -/
namespace EV
open PySem PySem.Spec PyProof.Rows L2 He
abbrev AlX : Type := AlD × (List (Option (List (Option (Str × Int)))) × List Bool)
def dvI (t : List (Str × Int)) : List (Str × Dv) := t.map fun p => (p.1, .int p.2)
def obsX (fa : List Fa) (fn : List DefD) (ds : List (Str × List (Str × Int))) (ts : List (Str × List Str)) (K : PySem.W.Frag) : AlX :=
  (obsD fa fn K, (ds.map fun d => dicW K (ga K d.1), (ds.map fun d => valsB K (ga K d.1) (dvI d.2)) ++ ts.map fun t => tupB K t.1 (t.2.map .str)))
def valX (fn : List DefD) (ds : List (Str × List (Str × Int))) (ts : List (Str × List Str)) (w : World) : AlX :=
  (valD fn, (ds.map fun d => some (keysIn w.params (d.2.map (·.1))), (ds.map fun _ => true) ++ ts.map fun _ => true))
def obsXG (n : Nat) (fa : List Fa) (fn : List DefD) (ds : List (Str × List (Str × Int))) (ts : List (Str × List Str)) (g : Addr → Option Obj) : AlX := obsX fa fn ds ts (frG g (asD g n))
def SaysX (fa : List Fa) (fn : List DefD) (ds : List (Str × List (Str × Int))) (ts : List (Str × List Str)) (w : World) (K : PySem.W.Frag) : Prop := obsX fa fn ds ts K = valX fn ds ts w
def hookX (n : Nat) (fa : List Fa) (fn : List DefD) (ds : List (Str × List (Str × Int))) (ts : List (Str × List Str)) : PySem.W.Hook where
  α := AlX
  obs := fun s => obsXG n fa fn ds ts s.heap.get?
  val := fun w => valX fn ds ts w
  says := fun w h => ∃ K : PySem.W.Frag, K.In h ∧ SaysX fa fn ds ts w K
  of := fun _ _ e => ⟨_, frG_in, e⟩
  keeps := fun _ _ _ ⟨K, hK, c⟩ k => ⟨K, PySem.W.Frag.In.keeps hK k, c⟩
theorem obsXG_eq {n : Nat} {fa : List Fa} {fn : List DefD} {ds : List (Str × List (Str × Int))} {ts : List (Str × List Str)} {g : Addr → Option Obj} {s : Shared} (h : ∀ a, g a = s.heap.get? a) : obsXG n fa fn ds ts g = (hookX n fa fn ds ts).obs s := by
  have e : g = s.heap.get? := funext h
  rw [e] <;> rfl
section
variable {fa : List Fa} {fn : List DefD} {ds : List (Str × List (Str × Int))} {ts : List (Str × List Str)} {w : World} {K : PySem.W.Frag}
theorem SaysX.d (c : SaysX fa fn ds ts w K) : SaysD fa fn K := congrArg (fun z : AlX => z.1) c
theorem app_both {A : Type} {a b c d : List A} (h : a ++ b = c ++ d) (hl : a.length = c.length) : a = c ∧ b = d := List.append_inj h hl
theorem SaysX.vals (c : SaysX fa fn ds ts w K) {d : Str × List (Str × Int)} (hd : d ∈ ds) : valsB K (ga K d.1) (dvI d.2) = true ∧ dicW K (ga K d.1) = some (keysIn w.params (d.2.map (·.1))) := by
  have e1 : ((ds.map fun d => valsB K (ga K d.1) (dvI d.2)) ++ ts.map fun t => tupB K t.1 (t.2.map .str)) = (ds.map fun _ => true) ++ ts.map fun _ => true := congrArg (fun z : AlX => z.2.2) c
  have e2 : (ds.map fun d => dicW K (ga K d.1)) = ds.map fun d => some (keysIn w.params (d.2.map (·.1))) := congrArg (fun z : AlX => z.2.1) c
  have e3 := (app_both e1 (by simp)).1
  exact ⟨List.map_inj_left.mp e3 d hd, List.map_inj_left.mp e2 d hd⟩
theorem SaysX.tups (c : SaysX fa fn ds ts w K) {t : Str × List Str} (ht : t ∈ ts) : tupB K t.1 (t.2.map .str) = true := by
  have e1 : ((ds.map fun d => valsB K (ga K d.1) (dvI d.2)) ++ ts.map fun t => tupB K t.1 (t.2.map .str)) = (ds.map fun _ => true) ++ ts.map fun _ => true := congrArg (fun z : AlX => z.2.2) c
  exact List.map_inj_left.mp (app_both e1 (by simp)).2 t ht
theorem lkm_mem {A : Type} : ∀ {l : List (Str × A)} {x : Str} {t : A}, l.lookup x = some t → (x, t) ∈ l
  | [], x, t, h => by cases h
  | (y, u) :: l, x, t, h => by
    rw [List.lookup_cons] at h
    split at h
    · rename_i c
      have e : x = y := by simpa using c
      cases h
      rw [e]
      exact List.mem_cons_self ..
    · exact List.mem_cons_of_mem _ (lkm_mem h)
theorem SaysX.tup (c : SaysX fa fn ds ts w K) {x : Str} {l : List Str} (h : ts.lookup x = some l) (H : Hp) : SqT K H (ga K x) (l.map V.str) := by
  have := tupB_ok (c.tups (lkm_mem h)) H
  rw [List.map_map] at this
  exact this
theorem lkm_none {A : Type} : ∀ {l : List (Str × A)} {x : Str}, l.lookup x = none → x ∉ l.map (·.1)
  | [], x, _ => by simp
  | (y, u) :: l, x, h => by
    rw [List.lookup_cons] at h
    split at h
    · cases h
    · rename_i c
      have e : x ≠ y := by simpa using c
      simp only [List.map_cons, List.mem_cons, not_or]
      exact ⟨e, lkm_none h⟩
theorem dic_none {P : Params} {K : PySem.W.Frag} {a : Addr} {ks : List Str} (h : dicW K a = some (keysIn P ks)) {z : Str} (hz : z ∉ ks) : PySem.W.nsIn K a z = some none := by
  unfold dicW at h
  cases q : K.lookup a with
  | none => rw [q] at h; cases h
  | some o =>
    obtain ⟨oc, od, dt, osl⟩ := o
    rw [q] at h
    cases oc with
    | type c =>
      cases od with
      | none =>
        cases dt with
        | dict es n =>
          have h1 : (match decide (c = "dict") && (osl.isEmpty && !(a == sysModules)) with
            | true => some (es.toList.map He.keyOf)
            | false => none) = some (keysIn P ks) := h
          split at h1
          · have hk := Option.some.inj h1
            have key : ∀ e ∈ es.toList, ∃ k ∈ ks, ∃ t, e.key = .str k t := fun e he => by
              have : He.keyOf e ∈ keysIn P ks := by rw [← hk]; exact List.mem_map.mpr ⟨e, he, rfl⟩
              obtain ⟨k, k1, k2⟩ := List.mem_map.mp this
              unfold He.keyOf at k2
              split at k2
              · rename_i x t qx
                have := Option.some.inj k2
                have e1 : k = x := congrArg Prod.fst this
                exact ⟨k, k1, t, by rw [e1]; exact qx⟩
              · cases k2
            unfold PySem.W.nsIn
            rw [q]
            have f1 : es.toList.find? (·.key.isStr z) = none := by
              rw [List.find?_eq_none]
              intro e he hs
              obtain ⟨k, k1, t, k2⟩ := key e he
              rw [k2] at hs
              have : k = z := by simpa [Value.isStr] using hs
              exact hz (this ▸ k1)
            have f2 : (es.toList.any (·.refKey)) = false := by
              rw [List.any_eq_false]
              intro e he hr
              obtain ⟨k, k1, t, k2⟩ := key e he
              simp [DictEntry.refKey, k2] at hr
            simp only [f1, f2]
            rfl
          · cases h1
        | _ => cases h
      | some b => cases dt <;> cases h
    | _ => cases od <;> cases dt <;> cases h
theorem SaysX.dic (c : SaysX fa fn ds ts w K) {x : Str} {t : List (Str × Int)} (h : ds.lookup x = some t) : GetD K w (ga K x) t := by
  obtain ⟨h1, h2⟩ := c.vals (lkm_mem h)
  obtain ⟨es, n, hk⟩ := dicW_ok h2
  refine ⟨es, n, hk, fun z => ?_⟩
  cases e : t.lookup z with
  | none => exact ⟨none, dic_none h2 (lkm_none e), fun _ => rfl, fun i hi => by cases hi⟩
  | some i =>
    obtain ⟨u, g1, g2⟩ := valsB_ok h1 (q := (z, .int i)) (List.mem_map.mpr ⟨(z, i), lkm_mem e, rfl⟩)
    obtain ⟨tk, rfl⟩ : ∃ tk, u = .int i tk := g2
    exact ⟨_, g1, (fun q => by cases q), fun j hj => by cases hj; exact ⟨tk, rfl⟩⟩
end
end EV

set_option maxRecDepth 100000
set_option maxHeartbeats 2000000
namespace EV
open PySem PySem.Spec
section
variable {F : Type} {C : Cf F} {env : Env} {s : Sto}
/-! ### one step each -/
@[simp] theorem e_var (i : Nat) : ev C env (.var i) s = .of (rd env i) s := id rfl
@[simp] theorem e_cst (c : AV) : ev C env (.cst c) s = .ok (.v c) s := id rfl
@[simp] theorem e_glb (x : Str) (c : AV) : ev C env (.glb x c) s = .ok (.v c) s := id rfl
@[simp] theorem e_tup (es : Es F) : ev C env (.tup es) s = (evs C env es s).bind fun rs s => .of ((toAs rs).bind fun l => if l.length ≤ sizeLine then some (.v (.tup l)) else none) s := id rfl
@[simp] theorem e_lst (es : Es F) : ev C env (.lst es) s = (evs C env es s).bind fun rs s => .of ((toAs rs).bind fun l => if l.length ≤ sizeLine then some (.tl (.lst l)) else none) s := id rfl
@[simp] theorem e_bin (o : Bop) (a b : E F) : ev C env (.bin o a b) s = (ev C env a s).bind fun x s => (ev C env b s).bind fun y s => .of (binR s o (fz x) (fz y)) s := id rfl
@[simp] theorem e_cmp (o : Cop) (a b : E F) : ev C env (.cmp o a b) s = (ev C env a s).bind fun x s => (ev C env b s).bind fun y s => .of ((cmpR s o (fz x) (fz y)).map fun k => .v (.bl k)) s := id rfl
@[simp] theorem e_ch2 (o p : Cop) (a b c : E F) : ev C env (.ch2 o p a b c) s = (ev C env a s).bind fun x s => (ev C env b s).bind fun y s => (Rs.of (cmpR s o (fz x) (fz y)) s).bind fun k s => match k with
    | false => .ok (.v (.bl false)) s
    | true => (ev C env c s).bind fun z s => .of ((cmpR s p (fz y) (fz z)).map fun k => .v (.bl k)) s := id rfl
@[simp] theorem e_ch3 (o p q : Cop) (a b c d : E F) : ev C env (.ch3 o p q a b c d) s = (ev C env a s).bind fun x s => (ev C env b s).bind fun y s => (Rs.of (cmpR s o (fz x) (fz y)) s).bind fun k s => match k with
    | false => .ok (.v (.bl false)) s
    | true => (ev C env c s).bind fun z s => (Rs.of (cmpR s p (fz y) (fz z)) s).bind fun k s => match k with
      | false => .ok (.v (.bl false)) s
      | true => (ev C env d s).bind fun u s => .of ((cmpR s q (fz z) (fz u)).map fun k => .v (.bl k)) s := id rfl
@[simp] theorem e_and (es : Es F) : ev C env (.and es) s = evAnd C env es s := id rfl
@[simp] theorem e_or (es : Es F) : ev C env (.or es) s = evOr C env es s := id rfl
@[simp] theorem e_not (a : E F) : ev C env (.not a) s = (ev C env a s).bind fun x s => .of ((bl? x).map fun k => .v (.bl (!k))) s := id rfl
@[simp] theorem e_ife (c a b : E F) : ev C env (.ife c a b) s = (ev C env c s).bind fun x s => (Rs.of (bl? x) s).bind fun k s => match k with
    | true => ev C env a s
    | false => ev C env b s := id rfl
@[simp] theorem e_sub (a i : E F) : ev C env (.sub a i) s = (ev C env a s).bind fun x s => (ev C env i s).bind fun y s => .of (subR s (fz x) (fz y)) s := id rfl
@[simp] theorem e_slc (a : E F) (lo hi : OE F) : ev C env (.slc a lo hi) s = (ev C env a s).bind fun x s => (evo C env lo s).bind fun l s => (evo C env hi s).bind fun h s => .of (slcR s (fz x) l h) s := id rfl
@[simp] theorem e_isi (a : E F) (t : Ty) : ev C env (.isi a t) s = (ev C env a s).bind fun x s => .of ((kdOf s x).map fun d => .v (.bl (kdOk d t))) s := id rfl
@[simp] theorem e_isis (a : E F) (ts : List Ty) : ev C env (.isis a ts) s = (ev C env a s).bind fun x s => .of ((kdOf s x).map fun d => .v (.bl (ts.any fun t => kdOk d t))) s := id rfl
@[simp] theorem e_bi (f : Bi) (es : Es F) : ev C env (.bi f es) s = (evs C env es s).bind fun rs s => .of (biR s f rs) s := id rfl
@[simp] theorem e_glt (x : Str) (l : List Str) : ev C env (.glt x l) s = .ok (.v (.tup (l.map .str))) s := id rfl
@[simp] theorem e_op1 (o : Op1) (a : E F) : ev C env (.op1 o a) s = (ev C env a s).bind fun x s => .of (opR1 s o (fz x)) s := id rfl
@[simp] theorem e_op2 (o : Op2) (a b : E F) : ev C env (.op2 o a b) s = (ev C env a s).bind fun x s => match op2L s o (fz x) with
    | true => (ev C env b s).bind fun y s => .of (opR2 s o (fz x) (fz y)) s
    | false => .stuck := id rfl
@[simp] theorem e_op3 (o : Op3) (a b c : E F) : ev C env (.op3 o a b c) s = (ev C env a s).bind fun x s => match op3L s o (fz x) with
    | true => (ev C env b s).bind fun y s => (ev C env c s).bind fun z s => .of (opR3 s o (fz x) (fz y) z) s
    | false => .stuck := id rfl
@[simp] theorem e_dnew (t : Bool) : ev C env (.dnew t) s = .ok (.tl (match t with
    | false => .dic [] []
    | true => .dit [] [])) s := id rfl
@[simp] theorem e_rgc (t : Bool) (n : Nat) (es : Es F) : ev C env (.rgc t n es) s = (evs C env es s).bind fun rs s => .of ((rngR n rs).bind fun l => if l.length ≤ sizeLine then some (match t with
    | false => .tl (.lst l)
    | true => .v (.tup l)) else none) s := id rfl
@[simp] theorem e_gget (x : Str) (t : List (Str × Int)) (k d : E F) : ev C env (.gget x t k d) s = (ev C env k s).bind fun x s => (ev C env d s).bind fun y s => .of (ggetR t (fz x) (fz y)) s := id rfl
@[simp] theorem e_popL (a i : E F) : ev C env (.popL a i) s = (ev C env a s).bind fun x s => match (lstOf s x).isSome with
    | true => (ev C env i s).bind fun y s => (Rs.of (popR s x y) s).bind fun p _ => .ok (.v p.1) p.2
    | false => .stuck := id rfl
@[simp] theorem e_new (a : E F) : ev C env (.new a) s = (ev C env a s).bind fun x s => match x with
    | .tl c => .ok (.v (.loc s.ob.length)) { s with ob := s.ob ++ [.ct c] }
    | _ => .stuck := id rfl
@[simp] theorem e_call (f : F) (es : Es F) : ev C env (.call f es) s = (evs C env es s).bind fun rs s => (Rs.of (toAs rs) s).bind fun l s => C f l s := id rfl
def lcF (C : Cf F) (env : Env) (t : Tg) (c : OE F) (e : E F) : AV → Sto → Rs (Option AV) := fun x s => (Rs.of (setT (wipeT env t) t x) s).bind fun env1 s => noX ((evc C env1 c s).bind fun k s => match k with
      | false => .ok none s
      | true => (ev C env1 e s).bind fun r s => (Rs.of (toA (fz r)) s).bind fun a s => .ok (some a) s)
@[simp] theorem e_lc (t : Tg) (it : It F) (c : OE F) (e : E F) : ev C env (.lc t it c e) s = (evi C env it s).bind fun l s => (lcL (lcF C env t c e) [] l s).bind fun l s => .ok (.tl (.lst l)) s := id rfl
@[simp] theorem es_nil : evs C env .nil s = .ok [] s := id rfl
@[simp] theorem es_cons (e : E F) (es : Es F) : evs C env (.cons e es) s = (ev C env e s).bind fun r s => (evs C env es s).bind fun l s => .ok (fz r :: l) s := id rfl
@[simp] theorem eo_none : evo C env .none s = .ok none s := id rfl
@[simp] theorem eo_some (e : E F) : evo C env (.some e) s = (ev C env e s).bind fun r s => match r with
    | .v (.int i) => .ok (some i) s
    | _ => .stuck := id rfl
@[simp] theorem ec_none : evc C env .none s = .ok true s := id rfl
@[simp] theorem ec_some (e : E F) : evc C env (.some e) s = (ev C env e s).bind fun r s => .of (bl? r) s := id rfl
@[simp] theorem ea_one (e : E F) : evAnd C env (.cons e .nil) s = (ev C env e s).bind fun r s => .of ((bl? r).map fun k => .v (.bl k)) s := id rfl
@[simp] theorem ea_cons (e a : E F) (es : Es F) : evAnd C env (.cons e (.cons a es)) s = (ev C env e s).bind fun x s => (Rs.of (bl? x) s).bind fun k s => match k with
    | true => evAnd C env (.cons a es) s
    | false => .ok (.v (.bl false)) s := id rfl
@[simp] theorem eor_one (e : E F) : evOr C env (.cons e .nil) s = (ev C env e s).bind fun r s => .of ((bl? r).map fun k => .v (.bl k)) s := id rfl
@[simp] theorem eor_cons (e a : E F) (es : Es F) : evOr C env (.cons e (.cons a es)) s = (ev C env e s).bind fun x s => (Rs.of (bl? x) s).bind fun k s => match k with
    | true => .ok (.v (.bl true)) s
    | false => evOr C env (.cons a es) s := id rfl
@[simp] theorem ei_seq (e : E F) : evi C env (.seq e) s = (ev C env e s).bind fun x s => .of ((toA (fz x)).bind itV) s := id rfl
@[simp] theorem ei_rng (n : Nat) (es : Es F) : evi C env (.rng n es) s = (evs C env es s).bind fun rs s => .of (rngR n rs) s := id rfl
@[simp] theorem ei_rev (a : E F) : evi C env (.rev a) s = (ev C env a s).bind fun x s => .of ((toA (fz x)).bind fun a => (seqV a).map List.reverse) s := id rfl
@[simp] theorem ei_zip (es : Es F) : evi C env (.zip es) s = (evs C env es s).bind fun rs s => .of (zipR rs) s := id rfl
@[simp] theorem ei_enum (es : Es F) : evi C env (.enum es) s = (evs C env es s).bind fun rs s => .of (enumR rs) s := id rfl
@[simp] theorem x_set (i : Nat) (e : E F) : ex C env (.set i e) s = (ev C env e s).bind fun r s => (Rs.of (toA (fz r)) s).bind fun a s => .ok (.nx, env.set i (.v a)) s := id rfl
@[simp] theorem x_own (i : Nat) (e : E F) : ex C env (.own i e) s = (ev C env e s).bind fun r s => match r with
    | .tl l => .ok (.nx, env.set i (.own l)) s
    | _ => .stuck := id rfl
@[simp] theorem x_heap (i : Nat) (e : E F) : ex C env (.heap i e) s = (ev C env e s).bind fun r s => match r with
    | .tl c => .ok (.nx, env.set i (.v (.loc s.ob.length))) { s with ob := s.ob ++ [.ct c] }
    | _ => .stuck := id rfl
@[simp] theorem x_unp (is : List Nat) (e : E F) : ex C env (.unp is e) s = (ev C env e s).bind fun r s => match r with
    | .v (.tup l) => if is.length = l.length then .ok (.nx, (is.zip l).foldl (fun e p => e.set p.1 (.v p.2)) env) s else .stuck
    | _ => .stuck := id rfl
@[simp] theorem x_mv (i j : Nat) : ex C env (.mv i j) s = match env[j]? with
    | some (.own c) => .ok (.nx, (env.set j .no).set i (.v c.av)) s
    | _ => .stuck := id rfl
@[simp] theorem x_frz (i : Nat) : ex C env (.frz i) s = match env[i]? with
    | some (.own c) => .ok (.nx, env.set i (.v c.av)) s
    | _ => .stuck := id rfl
@[simp] theorem x_app (i : Nat) (e : E F) : ex C env (.app i e) s = match env[i]? with
    | some (.own (.lst l)) => (ev C env e s).bind fun r s => (Rs.of (toA (fz r)) s).bind fun a s => if l.length < sizeLine then .ok (.nx, env.set i (.own (.lst (l ++ [a])))) s else .stuck
    | _ => .stuck := id rfl
@[simp] theorem x_ext (i : Nat) (e : E F) : ex C env (.ext i e) s = match env[i]? with
    | some (.own (.lst l)) => (ev C env e s).bind fun r s => match fz r with
      | .v (.lst m) => if l.length + m.length ≤ sizeLine then .ok (.nx, env.set i (.own (.lst (l ++ m)))) s else .stuck
      | _ => .stuck
    | _ => .stuck := id rfl
@[simp] theorem x_putO (i : Nat) (k e : E F) : ex C env (.putO i k e) s = (ev C env e s).bind fun r s => (Rs.of (toA (fz r)) s).bind fun a s => match env[i]? with
    | some (.own (.lst l)) => (ev C env k s).bind fun y s => match y with
      | .v (.int j) => (match L2.ixN l.length j with
        | some n => .ok (.nx, env.set i (.own (.lst (l.set n a)))) s
        | none => .stuck)
      | _ => .stuck
    | _ => .stuck := id rfl
@[simp] theorem x_dputO (i : Nat) (k e : E F) : ex C env (.dputO i k e) s = (ev C env e s).bind fun r s => (Rs.of (toA (fz r)) s).bind fun a s => match env[i]? with
    | some (.own (.dic ks l)) => (ev C env k s).bind fun y s => match fz y with
      | .v y => (match keyA y with
        | some q => if l.length < sizeLine then .ok (.nx, env.set i (.own (.dic (store ks l q a).1 (store ks l q a).2))) s else .stuck
        | none => .stuck)
      | _ => .stuck
    | _ => .stuck := id rfl
@[simp] theorem x_dsetO (i : Nat) (k e : E F) : ex C env (.dsetO i k e) s = match env[i]? with
    | some (.own (.dic ks l)) => (ev C env k s).bind fun y s => (ev C env e s).bind fun r s => (Rs.of (toA (fz r)) s).bind fun a s => match y with
      | .v y => (match keyA y with
        | some q => if l.length < sizeLine then (match look ks l q with
          | some _ => .ok (.nx, env) s
          | none => .ok (.nx, env.set i (.own (.dic (store ks l q a).1 (store ks l q a).2))) s) else .stuck
        | none => .stuck)
      | _ => .stuck
    | _ => .stuck := id rfl
@[simp] theorem x_par (i j : Nat) (a b : E F) : ex C env (.par i j a b) s = (evs C env (.cons a (.cons b .nil)) s).bind fun rs s => match rs with
    | [.v x, .v y] => .ok (.nx, (env.set i (.v x)).set j (.v y)) s
    | _ => .stuck := id rfl
def whC (C : Cf F) (c : E F) : Env → Sto → Rs Bool := fun env s => (ev C env c s).bind fun r s => .of (bl? r) s
def whF (C : Cf F) (b : Ss F) : Env → Sto → Rs (Fl × Env) := fun env s => exs C env b s
@[simp] theorem x_whl (c : E F) (b : Ss F) : ex C env (.whl c b) s = whlL (whC C c) (whF C b) 64 env s := id rfl
@[simp] theorem x_putL (o k e : E F) : ex C env (.putL o k e) s = (ev C env e s).bind fun r s => (Rs.of (toA (fz r)) s).bind fun a s => (ev C env o s).bind fun x s => (ev C env k s).bind fun y s => match x, y with
    | .v (.loc n), .v (.int j) => (Rs.of (wr s n fun l => (L2.ixN l.length j).map fun m => l.set m a) s).bind fun s' _ => .ok (.nx, env) s'
    | _, _ => .stuck := id rfl
@[simp] theorem x_appL (o e : E F) : ex C env (.appL o e) s = (ev C env o s).bind fun x s => match isLoc s x with
    | some n => (ev C env e s).bind fun r s => (Rs.of (toA (fz r)) s).bind fun a s => (Rs.of (wr s n fun l => if l.length < sizeLine then some (l ++ [a]) else none) s).bind fun s' _ => .ok (.nx, env) s'
    | none => .stuck := id rfl
@[simp] theorem x_expr (e : E F) : ex C env (.expr e) s = (ev C env e s).bind fun _ s => .ok (.nx, env) s := id rfl
@[simp] theorem x_ret (e : E F) : ex C env (.ret e) s = (ev C env e s).bind fun r s => match r with
    | .bo _ => .stuck
    | r => .ok (.rt r, env) s := id rfl
@[simp] theorem x_retV (i : Nat) : ex C env (.retV i) s = match env[i]? with
    | some (.own l) => .ok (.rt (.tl l), env) s
    | _ => .stuck := id rfl
@[simp] theorem x_retN : ex C env .retN s = .ok (.rt (.v .non), env) s := id rfl
@[simp] theorem x_ife (c : E F) (a b : Ss F) : ex C env (.ife c a b) s = (ev C env c s).bind fun r s => (Rs.of (bl? r) s).bind fun k s => match k with
    | true => exs C env a s
    | false => exs C env b s := id rfl
def loopF (C : Cf F) (t : Tg) (b : Ss F) : Env → AV → Sto → Rs (Fl × Env) := fun env x s => (Rs.of (setT env t x) s).bind fun env s => exs C env b s
@[simp] theorem x_for (t : Tg) (it : It F) (b : Ss F) : ex C env (.for_ t it b) s = (evi C env it s).bind fun l s => forL (loopF C t b) l env s := id rfl
@[simp] theorem xs_nil : exs C env .nil s = .ok (.nx, env) s := id rfl
@[simp] theorem xs_cons (st : S F) (ss : Ss F) : exs C env (.cons st ss) s = (ex C env st s).bind fun p s => match p.1 with
    | .nx => exs C p.2 ss s
    | .rt r => .ok (.rt r, p.2) s := id rfl
@[simp] theorem r_v (i : Nat) (a : AV) (h : env[i]? = some (.v a)) : rd env i = some (.v a) := by simp [rd, h]
@[simp] theorem setT_nm (i : Nat) (a : AV) : setT env (.nm i) a = some (env.set i (.v a)) := id rfl
@[simp] theorem wipeT_nm (i : Nat) : wipeT env (.nm i) = env.set i .no := id rfl
@[simp] theorem noX_ok {A : Type} (a : A) (s : Sto) : noX (.ok a s) = .ok a s := id rfl
@[simp] theorem fz_v (a : AV) : fz (.v a) = .v a := id rfl
@[simp] theorem fz_tl (c : Ct) : fz (.tl c) = .v c.av := id rfl
@[simp] theorem av_lst (l : List AV) : (Ct.lst l).av = .lst l := id rfl
@[simp] theorem av_dic (ks : List L2.Key) (l : List AV) : (Ct.dic ks l).av = .dic ks l := id rfl
@[simp] theorem vals_lst (l : List AV) : (Ct.lst l).vals = l := id rfl
@[simp] theorem fz_bo (l : Ct) : fz (.bo l) = .bo l := id rfl
@[simp] theorem toA_v (a : AV) : toA (.v a) = some a := id rfl
@[simp] theorem toAs_nil : toAs [] = some [] := id rfl
@[simp] theorem toAs_cons (a : AV) (l : List R) : toAs (.v a :: l) = (toAs l).map (a :: ·) := by
  show (match toA (.v a), toAs l with
    | some a, some as => some (a :: as)
    | _, _ => none) = _
  cases toAs l <;> rfl
@[simp] theorem bl_v (b : Bool) : bl? (.v (.bl b)) = some b := id rfl
@[simp] theorem seqOf_tup (l : List AV) : seqOf s (.v (.tup l)) = some l := id rfl
@[simp] theorem seqOf_lst (l : List AV) : seqOf s (.v (.lst l)) = some l := id rfl
@[simp] theorem seqOf_bo (l : List AV) : seqOf s (.bo (.lst l)) = some l := id rfl
@[simp] theorem seqOf_tl (l : List AV) : seqOf s (.tl (.lst l)) = some l := id rfl
@[simp] theorem seqOf_scr (l : List Int) : seqOf s (.v (.scr l)) = some (l.map .int) := id rfl
theorem seqOf_loc (n : Nat) (l : List AV) (h : s.ob[n]? = some (.ct (.lst l))) : seqOf s (.v (.loc n)) = some l := by simp [seqOf, h]
@[simp] theorem b_add (i j : Int) : binR s .add (.v (.int i)) (.v (.int j)) = some (.v (.int (i + j))) := id rfl
@[simp] theorem b_sub (i j : Int) : binR s .sub (.v (.int i)) (.v (.int j)) = some (.v (.int (i - j))) := id rfl
@[simp] theorem b_mul (i j : Int) : binR s .mul (.v (.int i)) (.v (.int j)) = if mulOk i j then some (.v (.int (i * j))) else none := id rfl
@[simp] theorem b_fdiv (i j : Int) : binR s .fdiv (.v (.int i)) (.v (.int j)) = if decide (0 < j) && decide (j < 1073741824) then some (.v (.int (i / j))) else none := id rfl
@[simp] theorem b_mod (i j : Int) : binR s .mod (.v (.int i)) (.v (.int j)) = if decide (0 < j) then some (.v (.int (i % j))) else none := id rfl
@[simp] theorem b_pow (i j : Int) : binR s .pow (.v (.int i)) (.v (.int j)) = if decide (0 ≤ j) && decide (j ≤ 1000000) && decide (i.natAbs < 2 ^ 64) then some (.v (.int (i ^ j.toNat))) else none := id rfl
@[simp] theorem b_tup (a b : List AV) : binR s .add (.v (.tup a)) (.v (.tup b)) = if decide (a.length + b.length ≤ sizeLine) then some (.v (.tup (a ++ b))) else none := id rfl
@[simp] theorem b_lst (a b : List AV) : binR s .add (.v (.lst a)) (.v (.lst b)) = if decide (a.length + b.length ≤ sizeLine) then some (.tl (.lst (a ++ b))) else none := id rfl
theorem b_tmul (a : List AV) (k : Int) (h1 : -(2 ^ 62) ≤ k) (h2 : k < 2 ^ 62) (h3 : a.length * k.toNat ≤ sizeLine) : binR s .mul (.v (.tup a)) (.v (.int k)) = some (.v (.tup (List.flatten (List.replicate k.toNat a)))) := by
  show (if decide (-(2 ^ 62) ≤ k) && decide (k < 2 ^ 62) && decide (a.length * k.toNat ≤ sizeLine) then some (R.v (.tup (List.flatten (List.replicate k.toNat a)))) else none) = _
  simp only [h1, h2, h3, decide_true, Bool.and_self, if_true]
theorem b_lmul (a : List AV) (k : Int) (h1 : -(2 ^ 62) ≤ k) (h2 : k < 2 ^ 62) (h3 : a.length * k.toNat ≤ sizeLine) : binR s .mul (.v (.lst a)) (.v (.int k)) = some (.tl (.lst (List.flatten (List.replicate k.toNat a)))) := by
  show (if decide (-(2 ^ 62) ≤ k) && decide (k < 2 ^ 62) && decide (a.length * k.toNat ≤ sizeLine) then some (R.tl (.lst (List.flatten (List.replicate k.toNat a)))) else none) = _
  simp only [h1, h2, h3, decide_true, Bool.and_self, if_true]
@[simp] theorem lo_lst (l : List AV) : lstOf s (.v (.lst l)) = some l := id rfl
@[simp] theorem lo_bo (l : List AV) : lstOf s (.bo (.lst l)) = some l := id rfl
@[simp] theorem lo_tl (l : List AV) : lstOf s (.tl (.lst l)) = some l := id rfl
theorem lo_loc (n : Nat) (l : List AV) (h : s.ob[n]? = some (.ct (.lst l))) : lstOf s (.v (.loc n)) = some l := by simp [lstOf, h]
@[simp] theorem o_neg (i : Int) : opR1 s .neg (.v (.int i)) = some (.v (.int (-i))) := id rfl
@[simp] theorem o_intb (b : Bool) : opR1 s .intb (.v (.bl b)) = some (.v (.int (if b then 1 else 0))) := id rfl
@[simp] theorem o_rvt (l : List AV) : opR1 s .rvs (.v (.tup l)) = some (.v (.tup l.reverse)) := id rfl
@[simp] theorem o_rvl (l : List AV) : opR1 s .rvs (.v (.lst l)) = some (.tl (.lst l.reverse)) := id rfl
@[simp] theorem o_srt (l : List AV) : opR1 s .sorted (.v (.tup l)) = (intsOf l).map fun ns => .tl (.lst ((sortI ns).map .int)) := id rfl
@[simp] theorem o_srl (l : List AV) : opR1 s .sorted (.v (.lst l)) = (intsOf l).map fun ns => .tl (.lst ((sortI ns).map .int)) := id rfl
@[simp] theorem ol_idx (l : List AV) : op2L s .idx (.v (.lst l)) = true := id rfl
@[simp] theorem ol_din (x : R) : op2L s .din x = true := id rfl
@[simp] theorem ol_dnin (x : R) : op2L s .dnin x = true := id rfl
@[simp] theorem ol_dget (x : R) : op2L s .dget x = true := id rfl
@[simp] theorem o_idx (x y : R) : opR2 s .idx x y = idxR s x y := id rfl
@[simp] theorem o_dget (x y : R) : opR2 s .dget x y = (dgetR s x y).bind fun o => o.map .v := id rfl
@[simp] theorem o_din (x y : R) : opR2 s .din y x = (dgetR s x y).map fun o => .v (.bl o.isSome) := id rfl
@[simp] theorem o_dnin (x y : R) : opR2 s .dnin y x = (dgetR s x y).map fun o => .v (.bl !o.isSome) := id rfl
@[simp] theorem dg_dic (ks : List L2.Key) (l : List AV) (a : AV) : dgetR s (.v (.dic ks l)) (.v a) = (keyA a).map fun k => look ks l k := id rfl
@[simp] theorem dg_bo (ks : List L2.Key) (l : List AV) (a : AV) : dgetR s (.bo (.dic ks l)) (.v a) = (keyA a).map fun k => look ks l k := id rfl
@[simp] theorem k_i (i : Int) : keyA (.int i) = some (.inl i) := id rfl
@[simp] theorem k_s (i : Str) : keyA (.str i) = some (.inr i) := id rfl
@[simp] theorem c_lt (i j : Int) : cmpR s .lt (.v (.int i)) (.v (.int j)) = some (decide (i < j)) := id rfl
@[simp] theorem c_ltt (a b : List AV) : cmpR s .lt (.v (.tup a)) (.v (.tup b)) = match intsOf a, intsOf b with
    | some n, some m => some (HT.lexLt n m)
    | _, _ => none := id rfl
@[simp] theorem c_inn (x y : R) : cmpR s .inn x y = inR s x y := by unfold cmpR; rfl
@[simp] theorem c_le (i j : Int) : cmpR s .le (.v (.int i)) (.v (.int j)) = some (decide (i ≤ j)) := id rfl
@[simp] theorem c_gt (i j : Int) : cmpR s .gt (.v (.int i)) (.v (.int j)) = some (decide (j < i)) := id rfl
@[simp] theorem c_ge (i j : Int) : cmpR s .ge (.v (.int i)) (.v (.int j)) = some (decide (j ≤ i)) := id rfl
@[simp] theorem c_eq (x y : R) : cmpR s .eq x y = eqR s x y := by unfold cmpR; rfl
@[simp] theorem c_ne (x y : R) : cmpR s .ne x y = (eqR s x y).map (!·) := by unfold cmpR; rfl
@[simp] theorem c_is (x : R) : cmpR s .isn x (.v .non) = some (isNon x) := by unfold cmpR; rfl
@[simp] theorem q_int (i j : Int) : eqR s (.v (.int i)) (.v (.int j)) = some (decide (i = j)) := by
  have e : ∀ k : Int, SeqAt.shaped (.int k) = true := fun k => rfl
  simp only [eqR, dat, toD, e, Bool.and_true, if_true, PyData.eqv]
  rfl
@[simp] theorem q_bl (i j : Bool) : eqR s (.v (.bl i)) (.v (.bl j)) = some (decide (i = j)) := by
  cases i <;> cases j <;> rfl
@[simp] theorem q_nil : eqR s (.v (.lst [])) (.v (.lst [])) = some true := id rfl
@[simp] theorem sR_tup (l : List AV) (i : Int) : subR s (.v (.tup l)) (.v (.int i)) = (L2.atI l i).map .v := id rfl
@[simp] theorem sR_lst (l : List AV) (i : Int) : subR s (.v (.lst l)) (.v (.int i)) = (L2.atI l i).map .v := id rfl
@[simp] theorem sR_bo (l : List AV) (i : Int) : subR s (.bo (.lst l)) (.v (.int i)) = (L2.atI l i).map .v := id rfl
@[simp] theorem sR_scr (l : List Int) (i : Int) : subR s (.v (.scr l)) (.v (.int i)) = (L2.atI (l.map AV.int) i).map .v := id rfl
theorem sR_loc (n : Nat) (l : List AV) (i : Int) (h : s.ob[n]? = some (.ct (.lst l))) : subR s (.v (.loc n)) (.v (.int i)) = (L2.atI l i).map .v := by
  show (match seqOf s (.v (.loc n)) with
    | some l => (L2.atI l i).map R.v
    | none => _) = _
  rw [seqOf_loc n l h]
@[simp] theorem k_tup (l : List AV) : kdOf s (.v (.tup l)) = some .tuple := id rfl
@[simp] theorem k_lst (l : List AV) : kdOf s (.v (.lst l)) = some .list := id rfl
@[simp] theorem k_int (i : Int) : kdOf s (.v (.int i)) = some .int := id rfl
@[simp] theorem k_bl (i : Bool) : kdOf s (.v (.bl i)) = some .bool := id rfl
@[simp] theorem k_str (i : Str) : kdOf s (.v (.str i)) = some .str := id rfl
@[simp] theorem k_non : kdOf s (.v .non) = some .non := id rfl
theorem k_loc (n : Nat) (l : List AV) (h : s.ob[n]? = some (.ct (.lst l))) : kdOf s (.v (.loc n)) = some .list := by simp [kdOf, h, Ct.kd]
@[simp] theorem l_tup (l : List AV) : biR s .len [.v (.tup l)] = some (.v (.int l.length)) := id rfl
@[simp] theorem l_lst (l : List AV) : biR s .len [.v (.lst l)] = some (.v (.int l.length)) := id rfl
@[simp] theorem l_bo (l : List AV) : biR s .len [.bo (.lst l)] = some (.v (.int l.length)) := id rfl
@[simp] theorem l_scr (l : List Int) : biR s .len [.v (.scr l)] = some (.v (.int l.length)) := by simp [biR]
theorem l_loc (n : Nat) (l : List AV) (h : s.ob[n]? = some (.ct (.lst l))) : biR s .len [.v (.loc n)] = some (.v (.int l.length)) := by simp [biR, seqOf_loc n l h]
@[simp] theorem s_lst (l : List AV) : biR s .sum [.v (.lst l)] = (intsOf l).map fun ns => .v (.int ns.sum) := id rfl
@[simp] theorem m_min (i j : Int) : biR s .min [.v (.int i), .v (.int j)] = some (.v (.int (if j < i then j else i))) := id rfl
@[simp] theorem m_max (i j : Int) : biR s .max [.v (.int i), .v (.int j)] = some (.v (.int (if j > i then j else i))) := id rfl
@[simp] theorem sl_tup (l : List AV) (a b : Option Int) : slcR s (.v (.tup l)) a b = some (.v (.tup (cutA l a b))) := id rfl
@[simp] theorem it_tup (l : List AV) : itV (.tup l) = some l := id rfl
@[simp] theorem it_lst (l : List AV) : itV (.lst l) = some l := id rfl
@[simp] theorem it_scr (l : List Int) : itV (.scr l) = some (l.map .int) := id rfl
@[simp] theorem sv_tup (l : List AV) : seqV (.tup l) = some l := id rfl
@[simp] theorem sv_lst (l : List AV) : seqV (.lst l) = some l := id rfl
@[simp] theorem ints_map (l : List Int) : intsOf (l.map .int) = some l := by
  induction l with
  | nil => rfl
  | cons i l ih => simp [intsOf, ih]
@[simp] theorem z_tup (l m : List AV) : zipR [.v (.tup l), .v (.tup m)] = some ((l.zip m).map fun p => .tup [p.1, p.2]) := id rfl
end
section
variable {F : Type}
/-- what a def's body gives -/
def fin (r : Rs (Fl × Env)) : Rs R := r.bind fun p s => match p.1 with
  | .nx => .ok (.v .non) s
  | .rt r => .ok r s
theorem call_eq {tb : F → Fn F} {f : F} {d : Nat} {l : List AV} {s : Sto} {ps ns : Nat} {b : Ss F} (h : tb f = ⟨ps, ns, b⟩) (hl : l.length = ps) : call tb (d + 1) f l s = fin (exs (call tb d) (l.map .v ++ List.replicate (ns - ps) .no) b s) := by
  show (if l.length = (tb f).ps then _ else _) = _
  rw [h]
  rw [if_pos hl]
  rfl
@[simp] theorem fin_nx (e : Env) (s : Sto) : fin (.ok (.nx, e) s) = .ok (.v .non) s := id rfl
@[simp] theorem fin_rt (r : R) (e : Env) (s : Sto) : fin (.ok (.rt r, e) s) = .ok r s := id rfl
theorem at_nat {A : Type} {l : List A} {n : Nat} {i : Int} {a : A} (hi : i = (n : Int)) (h : l[n]? = some a) : L2.atI l i = some a := by
  obtain ⟨hl, _⟩ := List.getElem?_eq_some_iff.mp h
  subst hi
  unfold L2.atI L2.ixN
  rw [if_pos (by omega), if_pos (by omega)]
  simpa using h
@[simp] theorem at0 {A : Type} (a : A) (l : List A) : L2.atI (a :: l) 0 = some a := at_nat (n := 0) rfl rfl
@[simp] theorem at1 {A : Type} (a b : A) (l : List A) : L2.atI (a :: b :: l) 1 = some b := at_nat (n := 1) rfl rfl
@[simp] theorem at2 {A : Type} (a b c : A) (l : List A) : L2.atI (a :: b :: c :: l) 2 = some c := at_nat (n := 2) rfl rfl
@[simp] theorem at3 {A : Type} (a b c e : A) (l : List A) : L2.atI (a :: b :: c :: e :: l) 3 = some e := at_nat (n := 3) rfl rfl
end
end EV

set_option maxRecDepth 100000
set_option maxHeartbeats 2000000
namespace EV
open PySem PySem.Spec
section
variable {F : Type}
def dDrawn : Ss F := (.cons (.ife (.cmp .gt (.sub (.var 0) (.cst (.int 3))) (.cst (.int 0))) (.cons (.set 2 (.bin .mod (.sub (.var 0) (.cst (.int 3))) (.var 1))) (.cons (.putL (.var 0) (.cst (.int 3)) (.bin .fdiv (.sub (.var 0) (.cst (.int 3))) (.var 1))) (.cons (.ret (.var 2)) .nil))) .nil) (.cons (.putL (.var 0) (.cst (.int 1)) (.bin .add (.sub (.var 0) (.cst (.int 1))) (.cst (.int 1)))) (.cons (.ife (.cmp .le (.sub (.var 0) (.cst (.int 1))) (.bi .len (.cons (.sub (.var 0) (.cst (.int 0))) .nil))) (.cons (.set 3 (.sub (.sub (.var 0) (.cst (.int 0))) (.bin .sub (.sub (.var 0) (.cst (.int 1))) (.cst (.int 1))))) (.cons (.putL (.var 0) (.cst (.int 3)) (.ife (.cmp .ge (.var 3) (.bin .pow (.cst (.int 10)) (.cst (.int 18)))) (.bin .fdiv (.var 3) (.var 1)) (.cst (.int 0)))) (.cons (.ret (.bin .mod (.var 3) (.var 1))) .nil))) .nil) (.cons (.putL (.var 0) (.cst (.int 2)) (.bin .mod (.bin .add (.bin .mul (.sub (.var 0) (.cst (.int 2))) (.cst (.int 48271))) (.cst (.int 11))) (.cst (.int 2147483647)))) (.cons (.ret (.bin .mod (.bin .fdiv (.sub (.var 0) (.cst (.int 2))) (.cst (.int 7))) (.var 1))) .nil)))))
def mkS (ns : List Int) (i m v : Int) (rest : List Ob) : Sto := ⟨0, .ct (.lst [.scr ns, .int i, .int m, .int v]) :: rest⟩
section
variable {ns : List Int} {i m v : Int} {rest : List Ob}
@[simp] theorem mkS_at (j : Int) : subR (mkS ns i m v rest) (.v (.loc 0)) (.v (.int j)) = (L2.atI [.scr ns, .int i, .int m, .int v] j).map .v := sR_loc 0 _ j rfl
@[simp] theorem mkS_w1 (x : Int) : wr (mkS ns i m v rest) 0 (fun l => (L2.ixN l.length 1).map fun k => l.set k (.int x)) = some (mkS ns x m v rest) := rfl
@[simp] theorem mkS_w2 (x : Int) : wr (mkS ns i m v rest) 0 (fun l => (L2.ixN l.length 2).map fun k => l.set k (.int x)) = some (mkS ns i x v rest) := rfl
@[simp] theorem mkS_w3 (x : Int) : wr (mkS ns i m v rest) 0 (fun l => (L2.ixN l.length 3).map fun k => l.set k (.int x)) = some (mkS ns i m x rest) := rfl
end
/-- the state of the draws -/
def Dr (ns : List Int) (rest : List Ob) (s : Sto) : Prop := ∃ i m v, 0 ≤ i ∧ s = mkS ns i m v rest
theorem drawn_ {tb : F → Fn F} {f : F} (h : tb f = ⟨2, 4, dDrawn⟩) (d : Nat) {ns : List Int} {rest : List Ob} {s : Sto} (hs : Dr ns rest s) (many : Int) (h0 : 0 < many) (h1 : many < 1073741824) :
    ∃ x s', call tb (d + 1) f [.loc 0, .int many] s = .ok (.v (.int x)) s' ∧ 0 ≤ x ∧ x < many ∧ Dr ns rest s' := by
  obtain ⟨i, m, v, hi, rfl⟩ := hs
  rw [call_eq h rfl]
  have hd : ∀ x : Int, 0 ≤ x % many ∧ x % many < many := fun x => ⟨Int.emod_nonneg _ (by omega), Int.emod_lt_of_pos _ h0⟩
  by_cases hv : 0 < v
  · refine ⟨v % many, mkS ns i m (v / many) rest, ?_, (hd v).1, (hd v).2, _, _, _, hi, rfl⟩
    simp [dDrawn, h0, h1, hv]
  · by_cases hl : i + 1 ≤ ns.length
    · have hlt : i.toNat < ns.length := by omega
      have e1 : L2.atI (ns.map AV.int) i = some (.int ns[i.toNat]) := at_nat (n := i.toNat) (by omega) (by simp [hlt])
      have e3 : i + 1 - 1 = i := by omega
      by_cases hc : (1000000000000000000 : Int) ≤ ns[i.toNat]
      · refine ⟨ns[i.toNat] % many, mkS ns (i + 1) m (ns[i.toNat] / many) rest, ?_, (hd _).1, (hd _).2, _, _, _, by omega, rfl⟩
        simp [dDrawn, h0, h1, hv, hl, e1, e3, hc]
      · refine ⟨ns[i.toNat] % many, mkS ns (i + 1) m 0 rest, ?_, (hd _).1, (hd _).2, _, _, _, by omega, rfl⟩
        simp [dDrawn, h0, h1, hv, hl, e1, e3, hc]
    · refine ⟨(m * 48271 + 11) % 2147483647 / 7 % many, mkS ns (i + 1) ((m * 48271 + 11) % 2147483647) v rest, ?_, (hd _).1, (hd _).2, _, _, _, by omega, rfl⟩
      simp [dDrawn, h0, h1, hv, hl, mulOk]
def dStart1 : Ss F := (.cons (.set 1 (.bin .mod (.bin .add (.bin .add (.bin .mul (.var 1) (.cst (.int 48271))) (.var 2)) (.cst (.int 7))) (.cst (.int 2147483647)))) .nil)
def dStart : Ss F := (.cons (.set 1 (.cst (.int 1))) (.cons (.for_ (.nm 2) (.seq (.var 0)) dStart1) (.cons (.ret (.lst (.cons (.var 0) (.cons (.cst (.int 0)) (.cons (.var 1) (.cons (.cst (.int 0)) .nil)))))) .nil)))
@[simp] theorem szle {n : Nat} (h : n ≤ 4096) : n ≤ sizeLine := Nat.le_trans h (by decide)
theorem start_ {tb : F → Fn F} {f : F} (h : tb f = ⟨1, 3, dStart⟩) (d : Nat) (ns : List Int) (s : Sto) : ∃ m, call tb (d + 1) f [.scr ns] s = .ok (.tl (.lst [.scr ns, .int 0, .int m, .int 0])) s := by
  rw [call_eq h rfl]
  have hl : ∀ (l : List Int) (m : Int) (e : Sl), ∃ m' e', forL (loopF (call tb d) (.nm 2) dStart1) (l.map AV.int) [.v (.scr ns), .v (.int m), e] s = .ok (.nx, [.v (.scr ns), .v (.int m'), e']) s := by
    intro l
    induction l with
    | nil => exact fun m e => ⟨m, e, rfl⟩
    | cons x l ih =>
      intro m e
      obtain ⟨m', e', h⟩ := ih ((m * 48271 + x + 7) % 2147483647) (.v (.int x))
      refine ⟨m', e', ?_⟩
      rw [List.map_cons, forL]
      have e1 : loopF (call tb d) (.nm 2) dStart1 [.v (.scr ns), .v (.int m), e] (.int x) s = .ok (.nx, [.v (.scr ns), .v (.int ((m * 48271 + x + 7) % 2147483647)), .v (.int x)]) s := by
        simp [loopF, dStart1, mulOk]
      rw [e1]
      simpa using h
  obtain ⟨m, e, h⟩ := hl ns 1 .no
  refine ⟨m, ?_⟩
  simp [dStart, List.replicate, h]
end
end EV

set_option maxRecDepth 100000
set_option maxHeartbeats 2000000
namespace EV
open PySem PySem.Spec
section
variable {F : Type}
theorem lcL_filter {f : AV → Sto → Rs (Option AV)} (g : AV → Option AV) : ∀ (l acc : List AV) (s : Sto), (∀ x ∈ l, f x s = .ok (g x) s) → acc.length + l.length ≤ sizeLine → lcL f acc l s = .ok (acc ++ l.filterMap g) s
  | [], acc, s, _, _ => by simp [lcL]
  | x :: l, acc, s, h, hl => by
    rw [lcL, h x (List.mem_cons_self ..)]
    have hx : ∀ y ∈ l, f y s = .ok (g y) s := fun y hy => h y (List.mem_cons_of_mem _ hy)
    rw [List.length_cons] at hl
    cases e : g x with
    | none => simp only [Rs.bind_ok]; rw [lcL_filter g l acc s hx (by omega), List.filterMap_cons_none e]
    | some a =>
      simp only [Rs.bind_ok]
      rw [if_pos (by omega), lcL_filter g l (acc ++ [a]) s hx (by rw [List.length_append, List.length_singleton]; omega), List.filterMap_cons_some e, List.append_assoc]
      rfl
theorem lcL_map {f : AV → Sto → Rs (Option AV)} (g : AV → AV) (l : List AV) (s : Sto) (h : ∀ x ∈ l, f x s = .ok (some (g x)) s) (hl : l.length ≤ sizeLine) : lcL f [] l s = .ok (l.map g) s := by
  rw [lcL_filter (fun x => some (g x)) l [] s h (by simpa using hl), List.filterMap_eq_map']
  rfl
theorem forL_ind {f : Env → AV → Sto → Rs (Fl × Env)} (P : List AV → Env → Sto → Prop) (h : ∀ x l env s, P (x :: l) env s → ∃ env' s', f env x s = .ok (.nx, env') s' ∧ P l env' s') : ∀ (l : List AV) (env : Env) (s : Sto), P l env s → ∃ env' s', forL f l env s = .ok (.nx, env') s' ∧ P [] env' s'
  | [], env, s, q => ⟨env, s, rfl, q⟩
  | x :: l, env, s, q => by
    obtain ⟨env', s', e, q'⟩ := h x l env s q
    obtain ⟨env2, s2, e2, q2⟩ := forL_ind P h l env' s' q'
    refine ⟨env2, s2, ?_, q2⟩
    rw [forL, e]
    simpa using e2
/-- a loop that only reckons: a over the items -/
theorem forL_fold {A : Type} {f : Env → AV → Sto → Rs (Fl × Env)} (En : A → Sl → Env) (st : A → AV → A) (s : Sto) : ∀ (l : List AV) (a : A) (e : Sl), (∀ (x : AV) (a : A) (e : Sl), x ∈ l → f (En a e) x s = .ok (.nx, En (st a x) (.v x)) s) → ∃ e', forL f l (En a e) s = .ok (.nx, En (l.foldl st a) e') s
  | [], a, e, _ => ⟨e, rfl⟩
  | x :: l, a, e, h => by
    obtain ⟨e', q⟩ := forL_fold En st s l (st a x) (.v x) fun y b e hy => h y b e (List.mem_cons_of_mem _ hy)
    refine ⟨e', ?_⟩
    rw [forL, h x a e (List.mem_cons_self ..)]
    simpa using q
theorem lcL_none {f : AV → Sto → Rs (Option AV)} : ∀ (l acc : List AV) (s : Sto), (∀ x ∈ l, f x s = .ok none s) → lcL f acc l s = .ok acc s
  | [], acc, s, _ => by simp [lcL]
  | x :: l, acc, s, h => by
    rw [lcL, h x (List.mem_cons_self ..)]
    simp only [Rs.bind_ok]
    exact lcL_none l acc s fun y hy => h y (List.mem_cons_of_mem _ hy)
theorem len_seq {s : Sto} {x : R} {l : List AV} (h : seqOf s x = some l) : biR s .len [x] = some (.v (.int l.length)) := by
  show (match seqOf s x with
    | some l => some (R.v (.int l.length))
    | none => _) = _
  rw [h]
theorem sub_seq {s : Sto} {x : R} {l : List AV} (h : seqOf s x = some l) (i : Int) : subR s x (.v (.int i)) = (L2.atI l i).map .v := by
  show (match seqOf s x with
    | some l => (L2.atI l i).map R.v
    | none => _) = _
  rw [h]
theorem rng_one {j : Int} (h : smallI j = true) : rngR 1 [.v (.int j)] = some (rngL 0 j) := by
  show (if smallI j then some (rngL 0 j) else none) = _
  rw [if_pos h]
theorem rngL_mem {a b : Int} {x : AV} (h : x ∈ rngL a b) : ∃ k : Nat, x = .int (a + k) ∧ a + k < b := by
  unfold rngL at h
  obtain ⟨k, hk, rfl⟩ := List.mem_map.mp h
  have := List.mem_range.mp hk
  exact ⟨k, rfl, by omega⟩
theorem small_nat {n : Nat} (h : n < 2 ^ 62) : smallI (n : Int) = true := by
  unfold smallI
  simp only [Bool.and_eq_true, decide_eq_true_eq]
  omega
def dSame (g : F) : Ss F := (.cons (.ife (.isis (.var 1) [.tuple, .list]) (.cons (.ife (.or (.cons (.not (.isis (.var 0) [.tuple, .list])) (.cons (.cmp .ne (.isi (.var 0) .list) (.isi (.var 1) .list)) .nil))) (.cons (.ret (.cst (.bl false))) .nil) .nil) (.cons (.ife (.cmp .ne (.bi .len (.cons (.var 0) .nil)) (.bi .len (.cons (.var 1) .nil))) (.cons (.ret (.cst (.bl false))) .nil) .nil) (.cons (.ret (.cmp .eq (.lc (.nm 2) (.rng 1 (.cons (.bi .len (.cons (.var 1) .nil)) .nil)) (.some (.not (.call g (.cons (.sub (.var 0) (.var 2)) (.cons (.sub (.var 1) (.var 2)) .nil))))) (.var 2)) (.lst .nil))) .nil))) .nil) (.cons (.ife (.cmp .isn (.var 1) (.cst .non)) (.cons (.ret (.cmp .isn (.var 0) (.cst .non))) .nil) .nil) (.cons (.ife (.isi (.var 1) .str) (.cons (.ret (.and (.cons (.isi (.var 0) .str) (.cons (.cmp .eq (.var 0) (.var 1)) .nil)))) .nil) .nil) (.cons (.ife (.or (.cons (.isi (.var 1) .bool) (.cons (.isi (.var 0) .bool) .nil))) (.cons (.ret (.and (.cons (.isi (.var 1) .bool) (.cons (.isi (.var 0) .bool) (.cons (.cmp .eq (.var 0) (.var 1)) .nil))))) .nil) .nil) (.cons (.ret (.and (.cons (.isi (.var 0) .int) (.cons (.cmp .eq (.var 0) (.var 1)) .nil)))) .nil)))))
@[simp] theorem isNon_v (b : Bool) : isNon (.v (.bl b)) = false := id rfl
@[simp] theorem isNon_i (b : Int) : isNon (.v (.int b)) = false := id rfl
@[simp] theorem isNon_s (b : Str) : isNon (.v (.str b)) = false := id rfl
@[simp] theorem isNon_n : isNon (.v .non) = true := id rfl
@[simp] theorem ko1 : kdOk .tuple .tuple = true := id rfl
@[simp] theorem ko2 : kdOk .list .list = true := id rfl
@[simp] theorem ko3 : kdOk .tuple .list = false := id rfl
@[simp] theorem ko4 : kdOk .list .tuple = false := id rfl
@[simp] theorem ko5 : kdOk .int .int = true := id rfl
@[simp] theorem ko6 : kdOk .int .bool = false := id rfl
@[simp] theorem ko7 : kdOk .int .str = false := id rfl
@[simp] theorem ko8 : kdOk .int .tuple = false := id rfl
@[simp] theorem ko9 : kdOk .int .list = false := id rfl
@[simp] theorem ko10 : kdOk .bool .int = true := id rfl
@[simp] theorem ko11 : kdOk .bool .bool = true := id rfl
@[simp] theorem ko12 : kdOk .bool .str = false := id rfl
@[simp] theorem ko13 : kdOk .bool .tuple = false := id rfl
@[simp] theorem ko14 : kdOk .bool .list = false := id rfl
@[simp] theorem ko15 : kdOk .str .str = true := id rfl
@[simp] theorem ko16 : kdOk .str .tuple = false := id rfl
@[simp] theorem ko17 : kdOk .str .list = false := id rfl
@[simp] theorem ko18 : kdOk .str .int = false := id rfl
@[simp] theorem ko19 : kdOk .str .bool = false := id rfl
@[simp] theorem ko20 : kdOk .non .tuple = false := id rfl
@[simp] theorem ko21 : kdOk .non .list = false := id rfl
@[simp] theorem ko22 : kdOk .tuple .int = false := id rfl
@[simp] theorem ko23 : kdOk .tuple .bool = false := id rfl
@[simp] theorem ko24 : kdOk .tuple .str = false := id rfl
@[simp] theorem ko25 : kdOk .list .int = false := id rfl
@[simp] theorem ko26 : kdOk .list .bool = false := id rfl
@[simp] theorem ko27 : kdOk .list .str = false := id rfl
section
variable {tb : F → Fn F} {g : F} (h : tb g = ⟨2, 3, dSame g⟩)
include h
theorem same_seq {d : Nat} {s : Sto} {x y : AV} {l : List AV} {k : Kd} (hk : k = .tuple ∨ k = .list) (kx : kdOf s (.v x) = some k) (ky : kdOf s (.v y) = some k) (sx : seqOf s (.v x) = some l) (sy : seqOf s (.v y) = some l) (hl : smallI (l.length : Int) = true)
    (hc : ∀ a ∈ l, call tb d g [a, a] s = .ok (.v (.bl true)) s) : call tb (d + 1) g [x, y] s = .ok (.v (.bl true)) s := by
  rw [call_eq h rfl]
  rcases hk with rfl | rfl
  all_goals
    simp [dSame, kx, ky, len_seq sx, len_seq sy, rng_one hl]
    rw [lcL_none]
    · simp
    · intro z hz
      obtain ⟨n, rfl, hn⟩ := rngL_mem hz
      have hn : n < l.length := by omega
      rw [Int.zero_add]
      have ea : L2.atI l (n : Int) = some l[n] := at_nat (n := n) (by omega) (by simp [hn])
      have ec := hc l[n] (List.getElem_mem hn)
      simp [lcF, sub_seq sx, sub_seq sy, ea, ec]
end
/-- plain data of some depth -/
def okD : Nat → AV → Prop
  | _, .non => True
  | _, .bl _ => True
  | _, .int _ => True
  | _, .str x => SeqAt.shaped (.str x) = true
  | d + 1, .tup l => l.length < 2 ^ 62 ∧ ∀ x ∈ l, okD d x
  | d + 1, .lst l => l.length < 2 ^ 62 ∧ ∀ x ∈ l, okD d x
  | _, _ => False
theorem q_str {s : Sto} {x : Str} (h : SeqAt.shaped (.str x) = true) : eqR s (.v (.str x)) (.v (.str x)) = some true := by
  simp [eqR, dat, toD, h, PyData.eqv]
theorem same_ {tb : F → Fn F} {g : F} (h : tb g = ⟨2, 3, dSame g⟩) : ∀ (d : Nat) (a : AV) (s : Sto), okD d a → call tb (d + 1) g [a, a] s = .ok (.v (.bl true)) s
  | d, .non, s, _ => by rw [call_eq h rfl]; simp [dSame]
  | d, .bl _, s, _ => by rw [call_eq h rfl]; simp [dSame]
  | d, .int _, s, _ => by rw [call_eq h rfl]; simp [dSame]
  | d, .str x, s, q => by
    have q : SeqAt.shaped (.str x) = true := by cases d <;> exact q
    rw [call_eq h rfl]; simp [dSame, q_str q]
  | d + 1, .tup l, s, q => same_seq h (.inl rfl) rfl rfl rfl rfl (small_nat q.1) fun a ha => same_ h d a s (q.2 a ha)
  | d + 1, .lst l, s, q => same_seq h (.inr rfl) rfl rfl rfl rfl (small_nat q.1) fun a ha => same_ h d a s (q.2 a ha)
  | 0, .tup l, s, q => q.elim
  | 0, .lst l, s, q => q.elim
  | 0, .scr l, s, q => q.elim
  | 0, .loc l, s, q => q.elim
  | d + 1, .scr l, s, q => q.elim
  | d + 1, .loc l, s, q => q.elim
  | 0, .dic _ _, s, q => q.elim
  | 0, .dit _ _, s, q => q.elim
  | d + 1, .dic _ _, s, q => q.elim
  | d + 1, .dit _ _, s, q => q.elim
end
end EV

set_option maxRecDepth 100000
set_option maxHeartbeats 0
namespace LW
open PySem PySem.Spec PyProof.Rows L2
inductive Fu where
  | is_number
  | are_sides
  | many_of
  | is_look
  | need_look
  | least_of
  | greatest_of
  | places_of
  | cell_of
  | cells_of
  | cells
  | row_steps
  | whole_of
  | whole
  | need
  | cut
  | pick
  | turned
  | may_lie
  | over
  | shaped
  | led
  | led_by
  | through
  | laid
  | first_places
  | meets
  | twice
  | hinders
  | hinders_back
  | plan_of
  | plan
  | Lstart
  | Ldrawn
  | Lsame
  | Lkind
  | Lfar
  | Lsides
  | Llook
  | Lbad
  | Lworks
  | LAW01
  | Lplaces
  | Lcell
  | Lcells
  | LAW02
  | Lway
  | Lother_sides
  | Lthrough
  | Lled
  | Lover
  | Lshaped
  | Lodd
  | LAW03
  | Lwhence
  | LAW04
  | Lsome_steps
  | LAW05
  | LAW06
  | Lmeets
  | Ltwice
  | LAW07
  | Lpair
  | Lplan
  | Lsmall
  | LAW08
  | Ldone
  | LAW09
  | need_program
  | done
  | run
  | run_careful
  | held
  | row_text
  | words_of
  | written
  | reason_of
  | reason
  | as_look
  | leaned
  | Lknown
  | Ldeed
  | Lprogram
  | Lbad_k10
  | Lworks_k10
  | LAW10
  | Ldeed_k11
  | Lprogram_k11
  | Lrun
  | Ldoes
  | Lhinders
  | LAW11
  | Lways
  | LAW12
  | LAW13
  | Lsteps
  | Lreason
  | Llaid_over
  | LAW14
  | Lfits
  | Llean
  | LAW15
  | LAW16
  | Lputs
  | Lis
  | Ltable_right
  | Lmoved_right
  | LAW17
  | number_of
  | row_of
  | way_of
  | deed_of
  | read
  | Lwords
  | LAW18
  | Lnumber
  | Lpart
  | Lread
  | Lspoilt
  | LAW19
  | Lnamed
  | Lonly
  | LAW20
  | led_k21
  | through_k21
  | Lanswer
  | Lcopied
  | LAW21
  | Lkind_k22
  | Llooks_right
  | Lprograms_right
  | LAW22
namespace Fu
/-- is_number : 0=part 1=low 2=high -/
def bis_number : EV.Ss Fu := (.cons (.ret (.and (.cons (.isi (.var 0) .int) (.cons (.not (.isi (.var 0) .bool)) (.cons (.ch2 .le .le (.var 1) (.var 0) (.var 2)) .nil))))) .nil)
/-- are_sides : 0=sides 1=side -/
def bare_sides : EV.Ss Fu := (.cons (.ife (.or (.cons (.not (.isi (.var 0) .tuple)) (.cons (.cmp .gt (.bi .len (.cons (.var 0) .nil)) (.glb "MOST_SIDES" (.int 3))) .nil))) (.cons (.ret (.cst (.bl false))) .nil) .nil) (.cons (.ret (.cmp .eq (.lc (.nm 1) (.seq (.var 0)) (.some (.not (.call .is_number (.cons (.var 1) (.cons (.cst (.int 0)) (.cons (.glb "MOST_SIDE" (.int 8)) .nil)))))) (.var 1)) (.lst .nil))) .nil))
def bmany_of_1 : EV.Ss Fu := (.cons (.set 1 (.bin .mul (.var 1) (.var 2))) .nil)
/-- many_of : 0=sides 1=found 2=side -/
def bmany_of : EV.Ss Fu := (.cons (.set 1 (.cst (.int 1))) (.cons (.for_ (.nm 2) (.seq (.var 0)) bmany_of_1) (.cons (.ret (.var 1)) .nil)))
/-- is_look : 0=look 1=start 2=sides 3=steps 4=step -/
def bis_look : EV.Ss Fu := (.cons (.ife (.or (.cons (.not (.isi (.var 0) .tuple)) (.cons (.cmp .ne (.bi .len (.cons (.var 0) .nil)) (.cst (.int 3))) (.cons (.not (.call .is_number (.cons (.sub (.var 0) (.cst (.int 0))) (.cons (.cst (.int 0)) (.cons (.bin .sub (.glb "MOST_CELLS" (.int 512)) (.cst (.int 1))) .nil))))) .nil)))) (.cons (.ret (.cst (.bl false))) .nil) .nil) (.cons (.unp [1, 2, 3] (.var 0)) (.cons (.ife (.or (.cons (.not (.call .are_sides (.cons (.var 2) .nil))) (.cons (.not (.isi (.var 3) .tuple)) (.cons (.cmp .ne (.bi .len (.cons (.var 3) .nil)) (.bi .len (.cons (.var 2) .nil))) .nil)))) (.cons (.ret (.cst (.bl false))) .nil) .nil) (.cons (.ife (.cmp .ne (.lc (.nm 4) (.seq (.var 3)) (.some (.not (.call .is_number (.cons (.var 4) (.cons (.bin .sub (.cst (.int 0)) (.glb "MOST_CELLS" (.int 512))) (.cons (.glb "MOST_CELLS" (.int 512)) .nil)))))) (.var 4)) (.lst .nil)) (.cons (.ret (.cst (.bl false))) .nil) .nil) (.cons (.ret (.or (.cons (.cmp .eq (.call .many_of (.cons (.var 2) .nil)) (.cst (.int 0))) (.cons (.ch3 .le .le .lt (.cst (.int 0)) (.call .least_of (.cons (.var 0) .nil)) (.call .greatest_of (.cons (.var 0) .nil)) (.glb "MOST_CELLS" (.int 512))) .nil)))) .nil)))))
/-- need_look : 0=look -/
def bneed_look : EV.Ss Fu := (.cons (.ife (.not (.call .is_look (.cons (.var 0) .nil))) (.cons (.never) .nil) .nil) .nil)
/-- least_of : 0=look 1=side 2=step -/
def bleast_of : EV.Ss Fu := (.cons (.ret (.bin .add (.sub (.var 0) (.cst (.int 0))) (.bi .sum (.cons (.lc (.tp [1, 2]) (.zip (.cons (.sub (.var 0) (.cst (.int 1))) (.cons (.sub (.var 0) (.cst (.int 2))) .nil))) .none (.bi .min (.cons (.cst (.int 0)) (.cons (.bin .mul (.var 2) (.bin .sub (.var 1) (.cst (.int 1)))) .nil)))) .nil)))) .nil)
/-- greatest_of : 0=look 1=side 2=step -/
def bgreatest_of : EV.Ss Fu := (.cons (.ret (.bin .add (.sub (.var 0) (.cst (.int 0))) (.bi .sum (.cons (.lc (.tp [1, 2]) (.zip (.cons (.sub (.var 0) (.cst (.int 1))) (.cons (.sub (.var 0) (.cst (.int 2))) .nil))) .none (.bi .max (.cons (.cst (.int 0)) (.cons (.bin .mul (.var 2) (.bin .sub (.var 1) (.cst (.int 1)))) .nil)))) .nil)))) .nil)
def bplaces_of_1 : EV.Ss Fu := (.cons (.ext 3 (.lc (.nm 5) (.rng 1 (.cons (.var 2) .nil)) .none (.bin .add (.var 4) (.tup (.cons (.var 5) .nil))))) .nil)
def bplaces_of_2 : EV.Ss Fu := (.cons (.own 3 (.lst .nil)) (.cons (.for_ (.nm 4) (.seq (.var 1)) bplaces_of_1) (.cons (.mv 1 3) .nil)))
/-- places_of : 0=sides 1=found 2=side 3=longer 4=place 5=k -/
def bplaces_of : EV.Ss Fu := (.cons (.set 1 (.lst (.cons (.tup .nil) .nil))) (.cons (.for_ (.nm 2) (.seq (.var 0)) bplaces_of_2) (.cons (.ret (.var 1)) .nil)))
/-- cell_of : 0=look 1=place 2=one 3=step -/
def bcell_of : EV.Ss Fu := (.cons (.ret (.bin .add (.sub (.var 0) (.cst (.int 0))) (.bi .sum (.cons (.lc (.tp [2, 3]) (.zip (.cons (.var 1) (.cons (.sub (.var 0) (.cst (.int 2))) .nil))) .none (.bin .mul (.var 2) (.var 3))) .nil)))) .nil)
/-- cells_of : 0=look 1=place -/
def bcells_of : EV.Ss Fu := (.cons (.ret (.lc (.nm 1) (.seq (.call .places_of (.cons (.sub (.var 0) (.cst (.int 1))) .nil))) .none (.call .cell_of (.cons (.var 0) (.cons (.var 1) .nil))))) .nil)
/-- cells : 0=look -/
def bcells : EV.Ss Fu := (.cons (.expr (.call .need_look (.cons (.var 0) .nil))) (.cons (.ret (.call .cells_of (.cons (.var 0) .nil))) .nil))
def brow_steps_1 : EV.Ss Fu := (.cons (.set 1 (.bin .add (.tup (.cons (.var 2) .nil)) (.var 1))) (.cons (.set 2 (.bin .mul (.var 2) (.var 3))) .nil))
/-- row_steps : 0=sides 1=found 2=step 3=side -/
def brow_steps : EV.Ss Fu := (.cons (.set 1 (.tup .nil)) (.cons (.set 2 (.cst (.int 1))) (.cons (.for_ (.nm 3) (.rev (.var 0)) brow_steps_1) (.cons (.ret (.var 1)) .nil))))
/-- whole_of : 0=sides -/
def bwhole_of : EV.Ss Fu := (.cons (.ret (.tup (.cons (.cst (.int 0)) (.cons (.var 0) (.cons (.call .row_steps (.cons (.var 0) .nil)) .nil))))) .nil)
/-- whole : 0=sides -/
def bwhole : EV.Ss Fu := (.cons (.ife (.not (.call .are_sides (.cons (.var 0) .nil))) (.cons (.never) .nil) .nil) (.cons (.ret (.call .whole_of (.cons (.var 0) .nil))) .nil))
/-- need : 0=good -/
def bneed : EV.Ss Fu := (.cons (.ife (.not (.var 0)) (.cons (.never) .nil) .nil) .nil)
/-- cut : 0=look 1=side 2=begin 3=end 4=stride 5=last 6=some 7=start 8=step 9=sides 10=steps -/
def bcut : EV.Ss Fu := (.cons (.unp [7, 9, 10] (.var 0)) (.cons (.expr (.call .need (.cons (.and (.cons (.call .is_number (.cons (.var 1) (.cons (.cst (.int 0)) (.cons (.bin .sub (.bi .len (.cons (.var 9) .nil)) (.cst (.int 1))) .nil)))) (.cons (.call .is_number (.cons (.var 4) (.cons (.bin .sub (.cst (.int 0)) (.glb "MOST_STRIDE" (.int 8))) (.cons (.glb "MOST_STRIDE" (.int 8)) .nil)))) (.cons (.cmp .ne (.var 4) (.cst (.int 0))) .nil)))) .nil))) (.cons (.set 5 (.sub (.var 9) (.var 1))) (.cons (.expr (.call .need (.cons (.and (.cons (.call .is_number (.cons (.var 2) (.cons (.bin .sub (.cst (.int 0)) (.cst (.int 1))) (.cons (.var 5) .nil)))) (.cons (.call .is_number (.cons (.var 3) (.cons (.bin .sub (.cst (.int 0)) (.cst (.int 1))) (.cons (.var 5) .nil)))) .nil))) .nil))) (.cons (.set 6 (.rgc false 3 (.cons (.var 2) (.cons (.var 3) (.cons (.var 4) .nil))))) (.cons (.expr (.call .need (.cons (.or (.cons (.cmp .eq (.var 6) (.lst .nil)) (.cons (.and (.cons (.cmp .le (.cst (.int 0)) (.op1 .minL (.var 6))) (.cons (.cmp .lt (.op1 .maxL (.var 6)) (.var 5)) .nil))) .nil))) .nil))) (.cons (.set 7 (.ife (.cmp .ne (.var 6) (.lst .nil)) (.bin .add (.var 7) (.bin .mul (.sub (.var 10) (.var 1)) (.sub (.var 6) (.cst (.int 0))))) (.var 7))) (.cons (.set 8 (.ife (.cmp .gt (.bi .len (.cons (.var 6) .nil)) (.cst (.int 1))) (.bin .mul (.sub (.var 10) (.var 1)) (.var 4)) (.cst (.int 0)))) (.cons (.set 9 (.bin .add (.bin .add (.slc (.var 9) .none (.some (.var 1))) (.tup (.cons (.bi .len (.cons (.var 6) .nil)) .nil))) (.slc (.var 9) (.some (.bin .add (.var 1) (.cst (.int 1)))) .none))) (.cons (.ret (.tup (.cons (.var 7) (.cons (.var 9) (.cons (.bin .add (.bin .add (.slc (.var 10) .none (.some (.var 1))) (.tup (.cons (.var 8) .nil))) (.slc (.var 10) (.some (.bin .add (.var 1) (.cst (.int 1)))) .none)) .nil))))) .nil))))))))))
/-- pick : 0=look 1=side 2=place 3=start 4=sides 5=steps -/
def bpick : EV.Ss Fu := (.cons (.unp [3, 4, 5] (.var 0)) (.cons (.expr (.call .need (.cons (.and (.cons (.call .is_number (.cons (.var 1) (.cons (.cst (.int 0)) (.cons (.bin .sub (.bi .len (.cons (.var 4) .nil)) (.cst (.int 1))) .nil)))) (.cons (.call .is_number (.cons (.var 2) (.cons (.cst (.int 0)) (.cons (.bin .sub (.sub (.var 4) (.var 1)) (.cst (.int 1))) .nil)))) .nil))) .nil))) (.cons (.ret (.tup (.cons (.bin .add (.var 3) (.bin .mul (.sub (.var 5) (.var 1)) (.var 2))) (.cons (.bin .add (.slc (.var 4) .none (.some (.var 1))) (.slc (.var 4) (.some (.bin .add (.var 1) (.cst (.int 1)))) .none)) (.cons (.bin .add (.slc (.var 5) .none (.some (.var 1))) (.slc (.var 5) (.some (.bin .add (.var 1) (.cst (.int 1)))) .none)) .nil))))) .nil)))
/-- turned : 0=look 1=order 2=one -/
def bturned : EV.Ss Fu := (.cons (.expr (.call .need (.cons (.and (.cons (.isi (.var 1) .tuple) (.cons (.cmp .eq (.lc (.nm 2) (.seq (.var 1)) (.some (.not (.call .is_number (.cons (.var 2) (.cons (.cst (.int 0)) (.cons (.cst (.int 9)) .nil)))))) (.var 2)) (.lst .nil)) .nil))) .nil))) (.cons (.expr (.call .need (.cons (.cmp .eq (.op1 .sorted (.var 1)) (.rgc false 1 (.cons (.bi .len (.cons (.sub (.var 0) (.cst (.int 1))) .nil)) .nil))) .nil))) (.cons (.ret (.tup (.cons (.sub (.var 0) (.cst (.int 0))) (.cons (.bi .tuple (.cons (.lc (.nm 2) (.seq (.var 1)) .none (.sub (.sub (.var 0) (.cst (.int 1))) (.var 2))) .nil)) (.cons (.bi .tuple (.cons (.lc (.nm 2) (.seq (.var 1)) .none (.sub (.sub (.var 0) (.cst (.int 2))) (.var 2))) .nil)) .nil))))) .nil)))
def bmay_lie_1 : EV.Ss Fu := (.cons (.ife (.cmp .notin (.var 2) (.tup (.cons (.cst (.int 1)) (.cons (.var 3) .nil)))) (.cons (.ret (.cst (.bl false))) .nil) .nil) .nil)
/-- may_lie : 0=sides 1=wide 2=side 3=other -/
def bmay_lie : EV.Ss Fu := (.cons (.ife (.cmp .lt (.bi .len (.cons (.var 1) .nil)) (.bi .len (.cons (.var 0) .nil))) (.cons (.ret (.cst (.bl false))) .nil) .nil) (.cons (.for_ (.tp [2, 3]) (.zipr (.var 0) (.var 1)) bmay_lie_1) (.cons (.ret (.cst (.bl true))) .nil)))
def bover_1 : EV.Ss Fu := (.cons (.set 3 (.bin .add (.var 3) (.tup (.cons (.ife (.cmp .eq (.var 7) (.var 8)) (.var 9) (.cst (.int 0))) .nil)))) .nil)
/-- over : 0=look 1=wide 2=more 3=found 4=start 5=sides 6=steps 7=side 8=other 9=step -/
def bover : EV.Ss Fu := (.cons (.unp [4, 5, 6] (.var 0)) (.cons (.set 2 (.bin .sub (.bi .len (.cons (.var 1) .nil)) (.bi .len (.cons (.var 5) .nil)))) (.cons (.set 3 (.bin .mul (.tup (.cons (.cst (.int 0)) .nil)) (.var 2))) (.cons (.for_ (.tp [7, 8, 9]) (.zip3 (.cons (.var 5) (.cons (.slc (.var 1) (.some (.var 2)) .none) (.cons (.var 6) .nil)))) bover_1) (.cons (.ret (.tup (.cons (.var 4) (.cons (.var 1) (.cons (.var 3) .nil))))) .nil)))))
def bshaped_1 : EV.Ss Fu := (.cons (.set 4 (.bin .fdiv (.var 4) (.var 5))) (.cons (.set 3 (.bin .add (.var 3) (.tup (.cons (.ife (.cmp .gt (.var 5) (.cst (.int 1))) (.bin .sub (.sub (.var 2) (.var 4)) (.sub (.var 2) (.cst (.int 0)))) (.cst (.int 0))) .nil)))) .nil))
/-- shaped : 0=look 1=sides 2=every 3=steps 4=behind 5=side 6=found -/
def bshaped : EV.Ss Fu := (.cons (.set 2 (.call .cells_of (.cons (.var 0) .nil))) (.cons (.ife (.cmp .ne (.bi .len (.cons (.var 2) .nil)) (.call .many_of (.cons (.var 1) .nil))) (.cons (.ret (.cst .non)) .nil) .nil) (.cons (.ife (.cmp .eq (.var 2) (.lst .nil)) (.cons (.ret (.tup (.cons (.sub (.var 0) (.cst (.int 0))) (.cons (.var 1) (.cons (.bin .mul (.tup (.cons (.cst (.int 0)) .nil)) (.bi .len (.cons (.var 1) .nil))) .nil))))) .nil) .nil) (.cons (.set 3 (.tup .nil)) (.cons (.set 4 (.bi .len (.cons (.var 2) .nil))) (.cons (.for_ (.nm 5) (.seq (.var 1)) bshaped_1) (.cons (.set 6 (.tup (.cons (.sub (.var 2) (.cst (.int 0))) (.cons (.var 1) (.cons (.var 3) .nil))))) (.cons (.ret (.ife (.cmp .eq (.call .cells_of (.cons (.var 6) .nil)) (.var 2)) (.var 6) (.cst .non))) .nil))))))))
/-- led : 0=look 1=way 2=found -/
def bled : EV.Ss Fu := (.cons (.expr (.call .need (.cons (.and (.cons (.isi (.var 1) .tuple) (.cons (.cmp .gt (.bi .len (.cons (.var 1) .nil)) (.cst (.int 0))) (.cons (.isi (.sub (.var 1) (.cst (.int 0))) .str) .nil)))) .nil))) (.cons (.expr (.call .need (.cons (.cmp .eq (.gget "SIZES" [("cut", 5), ("pick", 3), ("turned", 2), ("over", 2), ("shaped", 2)] (.sub (.var 1) (.cst (.int 0))) (.cst (.int 0))) (.bi .len (.cons (.var 1) .nil))) .nil))) (.cons (.set 2 (.call .led_by (.cons (.var 0) (.cons (.var 1) .nil)))) (.cons (.expr (.call .need (.cons (.call .is_look (.cons (.var 2) .nil)) .nil))) (.cons (.ret (.var 2)) .nil)))))
/-- led_by : 0=look 1=way 2=found -/
def bled_by : EV.Ss Fu := (.cons (.ife (.cmp .eq (.sub (.var 1) (.cst (.int 0))) (.cst (.str "cut"))) (.cons (.ret (.call .cut (.cons (.var 0) (.cons (.sub (.var 1) (.cst (.int 1))) (.cons (.sub (.var 1) (.cst (.int 2))) (.cons (.sub (.var 1) (.cst (.int 3))) (.cons (.sub (.var 1) (.cst (.int 4))) .nil))))))) .nil) .nil) (.cons (.ife (.cmp .eq (.sub (.var 1) (.cst (.int 0))) (.cst (.str "pick"))) (.cons (.ret (.call .pick (.cons (.var 0) (.cons (.sub (.var 1) (.cst (.int 1))) (.cons (.sub (.var 1) (.cst (.int 2))) .nil))))) .nil) .nil) (.cons (.ife (.cmp .eq (.sub (.var 1) (.cst (.int 0))) (.cst (.str "turned"))) (.cons (.ret (.call .turned (.cons (.var 0) (.cons (.sub (.var 1) (.cst (.int 1))) .nil)))) .nil) .nil) (.cons (.expr (.call .need (.cons (.call .are_sides (.cons (.sub (.var 1) (.cst (.int 1))) .nil)) .nil))) (.cons (.ife (.cmp .eq (.sub (.var 1) (.cst (.int 0))) (.cst (.str "over"))) (.cons (.expr (.call .need (.cons (.call .may_lie (.cons (.sub (.var 0) (.cst (.int 1))) (.cons (.sub (.var 1) (.cst (.int 1))) .nil))) .nil))) (.cons (.ret (.call .over (.cons (.var 0) (.cons (.sub (.var 1) (.cst (.int 1))) .nil)))) .nil)) .nil) (.cons (.set 2 (.call .shaped (.cons (.var 0) (.cons (.sub (.var 1) (.cst (.int 1))) .nil)))) (.cons (.expr (.call .need (.cons (.cmp .notn (.var 2) (.cst .non)) .nil))) (.cons (.ret (.var 2)) .nil))))))))
/-- through : 0=look 1=way -/
def bthrough : EV.Ss Fu := (.cons (.expr (.call .need_look (.cons (.var 0) .nil))) (.cons (.ret (.call .led (.cons (.var 0) (.cons (.var 1) .nil)))) .nil))
/-- laid : 0=look 1=wide -/
def blaid : EV.Ss Fu := (.cons (.ife (.not (.call .may_lie (.cons (.sub (.var 0) (.cst (.int 1))) (.cons (.var 1) .nil)))) (.cons (.never) .nil) .nil) (.cons (.ret (.call .over (.cons (.var 0) (.cons (.var 1) .nil)))) .nil))
def bfirst_places_1 : EV.Ss Fu := (.cons (.dsetO 1 (.call .cell_of (.cons (.var 0) (.cons (.var 2) .nil))) (.var 2)) .nil)
/-- first_places : 0=look 1=found 2=place -/
def bfirst_places : EV.Ss Fu := (.cons (.own 1 (.dnew false)) (.cons (.for_ (.nm 2) (.seq (.call .places_of (.cons (.sub (.var 0) (.cst (.int 1))) .nil))) bfirst_places_1) (.cons (.retV 1) .nil)))
def bmeets_1 : EV.Ss Fu := (.cons (.ife (.op2 .din (.call .cell_of (.cons (.var 0) (.cons (.var 3) .nil))) (.var 2)) (.cons (.ret (.tup (.cons (.var 3) (.cons (.op2 .dget (.var 2) (.call .cell_of (.cons (.var 0) (.cons (.var 3) .nil)))) .nil)))) .nil) .nil) .nil)
/-- meets : 0=one 1=other 2=known 3=place -/
def bmeets : EV.Ss Fu := (.cons (.expr (.call .need_look (.cons (.var 0) .nil))) (.cons (.expr (.call .need_look (.cons (.var 1) .nil))) (.cons (.set 2 (.call .first_places (.cons (.var 1) .nil))) (.cons (.for_ (.nm 3) (.seq (.call .places_of (.cons (.sub (.var 0) (.cst (.int 1))) .nil))) bmeets_1) (.cons (.ret (.cst .non)) .nil)))))
def btwice_1 : EV.Ss Fu := (.cons (.set 4 (.call .cell_of (.cons (.var 0) (.cons (.var 3) .nil)))) (.cons (.ife (.and (.cons (.op2 .din (.var 4) (.var 1)) (.cons (.or (.cons (.cmp .isn (.var 2) (.cst .non)) (.cons (.cmp .lt (.op2 .dget (.var 1) (.var 4)) (.sub (.var 2) (.cst (.int 0)))) .nil))) .nil))) (.cons (.set 2 (.tup (.cons (.op2 .dget (.var 1) (.var 4)) (.cons (.var 3) .nil)))) .nil) .nil) (.cons (.dsetO 1 (.var 4) (.var 3)) .nil)))
/-- twice : 0=look 1=known 2=best 3=place 4=cell -/
def btwice : EV.Ss Fu := (.cons (.expr (.call .need_look (.cons (.var 0) .nil))) (.cons (.own 1 (.dnew false)) (.cons (.set 2 (.cst .non)) (.cons (.for_ (.nm 3) (.seq (.call .places_of (.cons (.sub (.var 0) (.cst (.int 1))) .nil))) btwice_1) (.cons (.ret (.var 2)) .nil)))))
def bhinders_1 : EV.Ss Fu := (.cons (.ife (.cmp .gt (.op3 .dget2 (.var 2) (.var 4) (.bin .sub (.cst (.int 0)) (.cst (.int 1)))) (.var 3)) (.cons (.ret (.tup (.cons (.var 3) (.cons (.op3 .idx3 (.var 1) (.var 4) (.bin .add (.var 3) (.cst (.int 1)))) .nil)))) .nil) .nil) .nil)
def bhinders_2 : EV.Ss Fu := (.cons (.dputO 2 (.var 4) (.var 3)) .nil)
/-- hinders : 0=written 1=read 2=last 3=number 4=cell -/
def bhinders : EV.Ss Fu := (.cons (.own 2 (.dnew false)) (.cons (.for_ (.tp [3, 4]) (.enum (.cons (.var 1) .nil)) bhinders_2) (.cons (.for_ (.tp [3, 4]) (.enum (.cons (.var 0) .nil)) bhinders_1) (.cons (.ret (.cst .non)) .nil))))
def bhinders_back_1 : EV.Ss Fu := (.cons (.ife (.op2 .din (.sub (.var 0) (.var 6)) (.var 5)) (.cons (.ret (.tup (.cons (.op2 .dget (.var 5) (.sub (.var 0) (.var 6))) (.cons (.var 6) .nil)))) .nil) .nil) (.cons (.dputO 5 (.sub (.var 0) (.var 6)) (.var 6)) .nil))
/-- hinders_back : 0=written 1=read 2=alone 3=many 4=found 5=known 6=number -/
def bhinders_back : EV.Ss Fu := (.cons (.set 3 (.bi .len (.cons (.var 0) .nil))) (.cons (.set 4 (.call .hinders (.cons (.op1 .rvs (.var 0)) (.cons (.op1 .rvs (.var 1)) .nil)))) (.cons (.ife (.cmp .notn (.var 4) (.cst .non)) (.cons (.ret (.tup (.cons (.bin .sub (.bin .sub (.var 3) (.cst (.int 1))) (.sub (.var 4) (.cst (.int 0)))) (.cons (.bin .sub (.bin .sub (.var 3) (.cst (.int 1))) (.sub (.var 4) (.cst (.int 1)))) .nil)))) .nil) .nil) (.cons (.ife (.not (.var 2)) (.cons (.ret (.cst .non)) .nil) .nil) (.cons (.own 5 (.dnew false)) (.cons (.for_ (.nm 6) (.rng 3 (.cons (.bin .sub (.var 3) (.cst (.int 1))) (.cons (.op1 .neg (.cst (.int 1))) (.cons (.op1 .neg (.cst (.int 1))) .nil)))) bhinders_back_1) (.cons (.ret (.cst .non)) .nil)))))))
/-- plan_of : 0=goal 1=source 2=word 3=forth 4=back 5=places 6=written 7=read -/
def bplan_of : EV.Ss Fu := (.cons (.par 6 7 (.call .cells_of (.cons (.var 0) .nil)) (.call .cells_of (.cons (.var 1) .nil))) (.cons (.set 3 (.call .hinders (.cons (.var 6) (.cons (.var 7) .nil)))) (.cons (.ife (.cmp .isn (.var 3) (.cst .non)) (.cons (.ret (.glt "FORTH" ["forth"])) .nil) .nil) (.cons (.set 4 (.call .hinders_back (.cons (.var 6) (.cons (.var 7) (.cons (.cmp .eq (.var 2) (.cst (.str "set"))) .nil))))) (.cons (.ife (.cmp .isn (.var 4) (.cst .non)) (.cons (.ret (.glt "BACK" ["back"])) .nil) .nil) (.cons (.set 5 (.call .places_of (.cons (.sub (.var 0) (.cst (.int 1))) .nil))) (.cons (.ret (.tup (.cons (.cst (.str "copy")) (.cons (.tup (.cons (.sub (.var 5) (.sub (.var 3) (.cst (.int 0)))) (.cons (.sub (.var 5) (.sub (.var 3) (.cst (.int 1)))) .nil))) (.cons (.tup (.cons (.sub (.var 5) (.sub (.var 4) (.cst (.int 0)))) (.cons (.sub (.var 5) (.sub (.var 4) (.cst (.int 1)))) .nil))) .nil))))) .nil)))))))
/-- plan : 0=goal 1=source 2=word -/
def bplan : EV.Ss Fu := (.cons (.expr (.call .need_look (.cons (.var 0) .nil))) (.cons (.expr (.call .need_look (.cons (.var 1) .nil))) (.cons (.ret (.call .plan_of (.cons (.var 0) (.cons (.call .laid (.cons (.var 1) (.cons (.sub (.var 0) (.cst (.int 1))) .nil))) (.cons (.var 2) .nil))))) .nil)))
def bLstart_1 : EV.Ss Fu := (.cons (.set 1 (.bin .mod (.bin .add (.bin .add (.bin .mul (.var 1) (.cst (.int 48271))) (.var 2)) (.cst (.int 7))) (.cst (.int 2147483647)))) .nil)
/-- Lstart : 0=_law_script 1=_law_mixed 2=_law_cell_here -/
def bLstart : EV.Ss Fu := (.cons (.set 1 (.cst (.int 1))) (.cons (.for_ (.nm 2) (.seq (.var 0)) bLstart_1) (.cons (.ret (.lst (.cons (.var 0) (.cons (.cst (.int 0)) (.cons (.var 1) (.cons (.cst (.int 0)) .nil)))))) .nil)))
/-- Ldrawn : 0=_law_state 1=_law_many 2=_law_found 3=_law_cell_here -/
def bLdrawn : EV.Ss Fu := (.cons (.ife (.cmp .gt (.sub (.var 0) (.cst (.int 3))) (.cst (.int 0))) (.cons (.set 2 (.bin .mod (.sub (.var 0) (.cst (.int 3))) (.var 1))) (.cons (.putL (.var 0) (.cst (.int 3)) (.bin .fdiv (.sub (.var 0) (.cst (.int 3))) (.var 1))) (.cons (.ret (.var 2)) .nil))) .nil) (.cons (.putL (.var 0) (.cst (.int 1)) (.bin .add (.sub (.var 0) (.cst (.int 1))) (.cst (.int 1)))) (.cons (.ife (.cmp .le (.sub (.var 0) (.cst (.int 1))) (.bi .len (.cons (.sub (.var 0) (.cst (.int 0))) .nil))) (.cons (.set 3 (.sub (.sub (.var 0) (.cst (.int 0))) (.bin .sub (.sub (.var 0) (.cst (.int 1))) (.cst (.int 1))))) (.cons (.putL (.var 0) (.cst (.int 3)) (.ife (.cmp .ge (.var 3) (.bin .pow (.cst (.int 10)) (.cst (.int 18)))) (.bin .fdiv (.var 3) (.var 1)) (.cst (.int 0)))) (.cons (.ret (.bin .mod (.var 3) (.var 1))) .nil))) .nil) (.cons (.putL (.var 0) (.cst (.int 2)) (.bin .mod (.bin .add (.bin .mul (.sub (.var 0) (.cst (.int 2))) (.cst (.int 48271))) (.cst (.int 11))) (.cst (.int 2147483647)))) (.cons (.ret (.bin .mod (.bin .fdiv (.sub (.var 0) (.cst (.int 2))) (.cst (.int 7))) (.var 1))) .nil)))))
/-- Lsame : 0=_law_found 1=_law_due 2=_law_k -/
def bLsame : EV.Ss Fu := (.cons (.ife (.isis (.var 1) [.tuple, .list]) (.cons (.ife (.or (.cons (.not (.isis (.var 0) [.tuple, .list])) (.cons (.cmp .ne (.isi (.var 0) .list) (.isi (.var 1) .list)) .nil))) (.cons (.ret (.cst (.bl false))) .nil) .nil) (.cons (.ife (.cmp .ne (.bi .len (.cons (.var 0) .nil)) (.bi .len (.cons (.var 1) .nil))) (.cons (.ret (.cst (.bl false))) .nil) .nil) (.cons (.ret (.cmp .eq (.lc (.nm 2) (.rng 1 (.cons (.bi .len (.cons (.var 1) .nil)) .nil)) (.some (.not (.call .Lsame (.cons (.sub (.var 0) (.var 2)) (.cons (.sub (.var 1) (.var 2)) .nil))))) (.var 2)) (.lst .nil))) .nil))) .nil) (.cons (.ife (.cmp .isn (.var 1) (.cst .non)) (.cons (.ret (.cmp .isn (.var 0) (.cst .non))) .nil) .nil) (.cons (.ife (.isi (.var 1) .str) (.cons (.ret (.and (.cons (.isi (.var 0) .str) (.cons (.cmp .eq (.var 0) (.var 1)) .nil)))) .nil) .nil) (.cons (.ife (.or (.cons (.isi (.var 1) .bool) (.cons (.isi (.var 0) .bool) .nil))) (.cons (.ret (.and (.cons (.isi (.var 1) .bool) (.cons (.isi (.var 0) .bool) (.cons (.cmp .eq (.var 0) (.var 1)) .nil))))) .nil) .nil) (.cons (.ret (.and (.cons (.isi (.var 0) .int) (.cons (.cmp .eq (.var 0) (.var 1)) .nil)))) .nil)))))
/- Lkind not covered: stmt Try(body=[Return(value=Call(func=Name(id='_law_work', ctx=Load()), args=[], keyw -/
/-- Lkind : 0=_law_work 1=_law_kinds 2=_law_word -/
def bLkind : EV.Ss Fu := (.cons .never .nil)
/-- Lfar : 0=_law_state 1=_law_low 2=_law_high 3=_law_far_here -/
def bLfar : EV.Ss Fu := (.cons (.set 3 (.sub (.lst (.cons (.cst (.int 1)) (.cons (.cst (.int 20)) (.cons (.bin .pow (.cst (.int 10)) (.cst (.int 29))) .nil)))) (.call .Ldrawn (.cons (.var 0) (.cons (.cst (.int 3)) .nil))))) (.cons (.ret (.sub (.lst (.cons (.bin .sub (.bin .sub (.var 1) (.cst (.int 1))) (.call .Ldrawn (.cons (.var 0) (.cons (.var 3) .nil)))) (.cons (.bin .add (.bin .add (.var 2) (.cst (.int 1))) (.call .Ldrawn (.cons (.var 0) (.cons (.var 3) .nil)))) .nil))) (.call .Ldrawn (.cons (.var 0) (.cons (.cst (.int 2)) .nil))))) .nil))
def bLsides_1 : EV.Ss Fu := (.cons (.set 4 (.bin .add (.cst (.int 1)) (.call .Ldrawn (.cons (.var 0) (.cons (.var 1) .nil))))) (.cons (.set 2 (.bin .add (.var 2) (.tup (.cons (.sub (.lst (.cons (.var 4) (.cons (.var 4) (.cons (.var 4) (.cons (.cst (.int 0)) .nil))))) (.bin .fdiv (.call .Ldrawn (.cons (.var 0) (.cons (.cst (.int 16)) .nil))) (.cst (.int 5)))) .nil)))) .nil))
/-- Lsides : 0=_law_state 1=_law_most 2=_law_found 3=_law_k 4=_law_side -/
def bLsides : EV.Ss Fu := (.cons (.set 2 (.tup .nil)) (.cons (.for_ (.nm 3) (.rng 1 (.cons (.call .Ldrawn (.cons (.var 0) (.cons (.cst (.int 4)) .nil))) .nil)) bLsides_1) (.cons (.ret (.var 2)) .nil)))
def bLlook_1 : EV.Ss Fu := (.cons (.own 7 (.lst (.cons (.var 3) (.cons (.var 3) (.cons (.bin .sub (.cst (.int 0)) (.var 3)) (.cons (.bin .sub (.call .Ldrawn (.cons (.var 0) (.cons (.cst (.int 9)) .nil))) (.cst (.int 4))) (.cons (.bin .sub (.call .Ldrawn (.cons (.var 0) (.cons (.cst (.int 41)) .nil))) (.cst (.int 20))) (.cons (.bin .mul (.cst (.int 2)) (.var 3)) (.cons (.cst (.int 0)) .nil))))))))) (.cons (.ife (.and (.cons (.cmp .lt (.var 4) (.cst (.int 3))) (.cons (.cmp .eq (.call .Ldrawn (.cons (.var 0) (.cons (.cst (.int 3)) .nil))) (.cst (.int 2))) .nil))) (.cons (.putO 7 (.cst (.int 6)) (.bin .sub (.call .Ldrawn (.cons (.var 0) (.cons (.cst (.int 1025)) .nil))) (.cst (.int 512)))) .nil) .nil) (.cons (.set 2 (.bin .add (.tup (.cons (.sub (.var 7) (.call .Ldrawn (.cons (.var 0) (.cons (.cst (.int 7)) .nil)))) .nil)) (.var 2))) (.cons (.set 3 (.bin .mul (.var 3) (.bi .max (.cons (.cst (.int 1)) (.cons (.var 4) .nil))))) .nil))))
/-- Llook : 0=_law_state 1=_law_sides_here 2=_law_steps 3=_law_step 4=_law_side 5=_law_low 6=_law_high 7=_law_some 8=_law_k -/
def bLlook : EV.Ss Fu := (.cons (.set 1 (.call .Lsides (.cons (.var 0) (.cons (.sub (.lst (.cons (.cst (.int 3)) (.cons (.cst (.int 3)) (.cons (.cst (.int 5)) (.cons (.cst (.int 8)) .nil))))) (.call .Ldrawn (.cons (.var 0) (.cons (.cst (.int 4)) .nil)))) .nil)))) (.cons (.set 2 (.tup .nil)) (.cons (.set 3 (.cst (.int 1))) (.cons (.for_ (.nm 4) (.rev (.var 1)) bLlook_1) (.cons (.set 5 (.bi .sum (.cons (.lc (.nm 8) (.rng 1 (.cons (.bi .len (.cons (.var 1) .nil)) .nil)) (.some (.cmp .gt (.sub (.var 1) (.var 8)) (.cst (.int 0)))) (.bi .min (.cons (.cst (.int 0)) (.cons (.bin .mul (.sub (.var 2) (.var 8)) (.bin .sub (.sub (.var 1) (.var 8)) (.cst (.int 1)))) .nil)))) .nil))) (.cons (.set 6 (.bi .sum (.cons (.lc (.nm 8) (.rng 1 (.cons (.bi .len (.cons (.var 1) .nil)) .nil)) (.some (.cmp .gt (.sub (.var 1) (.var 8)) (.cst (.int 0)))) (.bi .max (.cons (.cst (.int 0)) (.cons (.bin .mul (.sub (.var 2) (.var 8)) (.bin .sub (.sub (.var 1) (.var 8)) (.cst (.int 1)))) .nil)))) .nil))) (.cons (.ife (.cmp .gt (.bin .sub (.var 6) (.var 5)) (.cst (.int 511))) (.cons (.ret (.tup (.cons (.cst (.int 0)) (.cons (.slc (.var 1) .none (.some (.cst (.int 1)))) (.cons (.slc (.tup (.cons (.cst (.int 1)) .nil)) .none (.some (.bi .len (.cons (.slc (.var 1) .none (.some (.cst (.int 1)))) .nil)))) .nil))))) .nil) .nil) (.cons (.ret (.tup (.cons (.bin .add (.bin .sub (.cst (.int 0)) (.var 5)) (.call .Ldrawn (.cons (.var 0) (.cons (.bi .min (.cons (.cst (.int 20)) (.cons (.bin .add (.bin .sub (.cst (.int 512)) (.var 6)) (.var 5)) .nil))) .nil)))) (.cons (.var 1) (.cons (.var 2) .nil))))) .nil))))))))
/-- Lbad : 0=_law_state 1=_law_look_here 2=_law_far_here 3=_law_more 4=_law_some 5=_law_start_here 6=_law_sides_here 7=_law_steps -/
def bLbad : EV.Ss Fu := (.cons (.unp [5, 6, 7] (.var 1)) (.cons (.set 2 (.call .Lfar (.cons (.var 0) (.cons (.cst (.int 0)) (.cons (.cst (.int 511)) .nil))))) (.cons (.set 3 (.call .Lfar (.cons (.var 0) (.cons (.cst (.int 0)) (.cons (.cst (.int 8)) .nil))))) (.cons (.set 4 (.lst (.cons (.tup .nil) (.cons (.tup (.cons (.var 5) (.cons (.var 6) .nil))) (.cons (.tup (.cons (.var 2) (.cons (.var 6) (.cons (.var 7) .nil)))) (.cons (.tup (.cons (.var 5) (.cons (.bin .add (.var 6) (.tup (.cons (.cst (.int 1)) .nil))) (.cons (.var 7) .nil)))) (.cons (.tup (.cons (.var 5) (.cons (.var 6) (.cons (.bin .add (.var 7) (.tup (.cons (.cst (.int 1)) .nil))) .nil)))) .nil))))))) (.cons (.set 4 (.bin .add (.var 4) (.lst (.cons (.tup (.cons (.cst (.bl true)) (.cons (.var 6) (.cons (.var 7) .nil)))) (.cons (.tup (.cons (.var 5) (.cons (.bin .mul (.tup (.cons (.cst (.int 2)) .nil)) (.cst (.int 4))) (.cons (.bin .mul (.tup (.cons (.cst (.int 1)) .nil)) (.cst (.int 4))) .nil)))) (.cons (.tup (.cons (.var 5) (.cons (.tup (.cons (.var 3) .nil)) (.cons (.tup (.cons (.cst (.int 1)) .nil)) .nil)))) (.cons (.tup (.cons (.cst (.int 511)) (.cons (.tup (.cons (.cst (.int 2)) .nil)) (.cons (.tup (.cons (.cst (.int 1)) .nil)) .nil)))) .nil))))))) (.cons (.set 4 (.bin .add (.var 4) (.lst (.cons (.tup (.cons (.cst (.int 0)) (.cons (.tup (.cons (.cst (.int 2)) .nil)) (.cons (.tup (.cons (.bin .sub (.cst (.int 0)) (.cst (.int 1))) .nil)) .nil)))) (.cons (.tup (.cons (.cst (.int 0)) (.cons (.tup (.cons (.cst (.int 8)) (.cons (.cst (.int 8)) .nil))) (.cons (.tup (.cons (.cst (.int 512)) (.cons (.cst (.int 1)) .nil))) .nil)))) (.cons (.tup (.cons (.var 5) (.cons (.tup (.cons (.cst (.int 3)) .nil)) (.cons (.tup (.cons (.call .Lfar (.cons (.var 0) (.cons (.bin .sub (.cst (.int 0)) (.cst (.int 512))) (.cons (.cst (.int 512)) .nil)))) .nil)) .nil)))) .nil)))))) (.cons (.set 4 (.bin .add (.var 4) (.lst (.cons (.tup (.cons (.var 5) (.cons (.tup (.cons (.cst (.bl true)) .nil)) (.cons (.tup (.cons (.cst (.int 1)) .nil)) .nil)))) (.cons (.tup (.cons (.var 5) (.cons (.cst (.int 3)) (.cons (.tup (.cons (.cst (.int 1)) .nil)) .nil)))) (.cons (.tup (.cons (.var 5) (.cons (.tup (.cons (.cst (.int 1)) .nil)) (.cons (.cst (.int 1)) .nil)))) (.cons (.tup (.cons (.var 5) (.cons (.tup (.cons (.cst (.int 1)) .nil)) (.cons (.tup (.cons (.cst (.bl true)) .nil)) .nil)))) .nil))))))) (.cons (.ret (.sub (.var 4) (.call .Ldrawn (.cons (.var 0) (.cons (.cst (.int 16)) .nil))))) .nil))))))))
/- Lworks not covered: expr Lambda(args=arguments(posonlyargs=[], args=[], kwonlyargs=[], kw_defaults=[], de -/
/-- Lworks : 0=_law_bad_here 1=_law_look_here 2=_law_works_here -/
def bLworks : EV.Ss Fu := (.cons .never (.cons .never (.cons .never (.cons .never (.cons .never (.cons .never (.cons .never (.cons .never .nil))))))))
/- LAW01 not covered: expr Lambda(args=arguments(posonlyargs=[], args=[], kwonlyargs=[], kw_defaults=[], de -/
/-- LAW01 : 0=_law_script 1=_law_state 2=_law_good 3=_law_turn 4=_law_look_here 5=_law_bad_here 6=_law_some 7=_law_odd 8=_law_work 9=_law_one -/
def bLAW01 : EV.Ss Fu := (.cons .never (.cons .never (.cons .never (.cons .never .nil))))
def bLplaces_1 : EV.Ss Fu := (.cons (.ext 1 (.lc (.nm 3) (.seq (.call .Lplaces (.cons (.slc (.var 0) (.some (.cst (.int 1))) .none) .nil))) .none (.bin .add (.tup (.cons (.var 2) .nil)) (.var 3)))) .nil)
/-- Lplaces : 0=_law_sides_here 1=_law_found 2=_law_k 3=_law_rest -/
def bLplaces : EV.Ss Fu := (.cons (.ife (.cmp .eq (.var 0) (.tup .nil)) (.cons (.ret (.lst (.cons (.tup .nil) .nil))) .nil) .nil) (.cons (.own 1 (.lst .nil)) (.cons (.for_ (.nm 2) (.rng 1 (.cons (.sub (.var 0) (.cst (.int 0))) .nil)) bLplaces_1) (.cons (.retV 1) .nil))))
def bLcell_1 : EV.Ss Fu := (.cons (.set 2 (.bin .add (.var 2) (.bin .mul (.sub (.var 1) (.var 3)) (.sub (.sub (.var 0) (.cst (.int 2))) (.var 3))))) .nil)
/-- Lcell : 0=_law_look_here 1=_law_place 2=_law_found 3=_law_k -/
def bLcell : EV.Ss Fu := (.cons (.set 2 (.sub (.var 0) (.cst (.int 0)))) (.cons (.for_ (.nm 3) (.rng 1 (.cons (.bi .len (.cons (.var 1) .nil)) .nil)) bLcell_1) (.cons (.ret (.var 2)) .nil)))
/-- Lcells : 0=_law_look_here 1=_law_place -/
def bLcells : EV.Ss Fu := (.cons (.ret (.lc (.nm 1) (.seq (.call .Lplaces (.cons (.sub (.var 0) (.cst (.int 1))) .nil))) .none (.call .Lcell (.cons (.var 0) (.cons (.var 1) .nil))))) .nil)
def bLAW02_1 : EV.Ss Fu := (.cons (.set 9 (.bin .mul (.var 9) (.var 10))) .nil)
def bLAW02_2 : EV.Ss Fu := (.cons (.set 9 (.cst (.int 1))) (.cons (.for_ (.nm 10) (.seq (.slc (.var 5) (.some (.bin .add (.var 7) (.cst (.int 1)))) .none)) bLAW02_1) (.cons (.set 6 (.bin .add (.var 6) (.tup (.cons (.var 9) .nil)))) .nil)))
def bLAW02_3 : EV.Ss Fu := (.cons (.heap 8 (.call .cells (.cons (.var 3) .nil))) (.cons (.ife (.not (.call .Lsame (.cons (.var 8) (.cons (.call .Lcells (.cons (.var 3) .nil)) .nil)))) (.cons (.ret (.cst (.bl false))) .nil) .nil) (.cons (.appL (.var 8) (.cst (.int 0))) .nil)))
def bLAW02_4 : EV.Ss Fu := (.cons (.set 3 (.call .Llook (.cons (.var 1) .nil))) (.cons (.for_ (.nm 4) (.rng 1 (.cons (.cst (.int 2)) .nil)) bLAW02_3) (.cons (.set 5 (.call .Lsides (.cons (.var 1) (.cons (.cst (.int 8)) .nil)))) (.cons (.set 6 (.tup .nil)) (.cons (.for_ (.nm 7) (.rng 1 (.cons (.bi .len (.cons (.var 5) .nil)) .nil)) bLAW02_2) (.cons (.ife (.not (.call .Lsame (.cons (.call .whole (.cons (.var 5) .nil)) (.cons (.tup (.cons (.cst (.int 0)) (.cons (.var 5) (.cons (.var 6) .nil)))) .nil)))) (.cons (.ret (.cst (.bl false))) .nil) .nil) .nil))))))
/-- LAW02 : 0=_law_script 1=_law_state 2=_law_turn 3=_law_look_here 4=_law_again 5=_law_sides_here 6=_law_steps 7=_law_k 8=_law_found 9=_law_behind 10=_law_side -/
def bLAW02 : EV.Ss Fu := (.cons (.heap 1 (.call .Lstart (.cons (.var 0) .nil))) (.cons (.for_ (.nm 2) (.rng 1 (.cons (.cst (.int 10)) .nil)) bLAW02_4) (.cons (.ret (.cst (.bl true))) .nil)))
/-- Lway : 0=_law_state 1=_law_look_here 2=_law_sides_here 3=_law_way_here 4=_law_k 5=_law_side 6=_law_stride 7=_law_ends 8=_law_left 9=_law_far_here 10=_law_wide 11=_law_one -/
def bLway : EV.Ss Fu := (.cons (.set 2 (.sub (.var 1) (.cst (.int 1)))) (.cons (.set 3 (.call .Ldrawn (.cons (.var 0) (.cons (.cst (.int 9)) .nil)))) (.cons (.set 4 (.ife (.cmp .ne (.var 2) (.tup .nil)) (.call .Ldrawn (.cons (.var 0) (.cons (.bi .len (.cons (.var 2) .nil)) .nil))) (.cst (.int 0)))) (.cons (.set 5 (.ife (.cmp .ne (.var 2) (.tup .nil)) (.sub (.var 2) (.var 4)) (.cst (.int 0)))) (.cons (.ife (.cmp .lt (.var 3) (.cst (.int 3))) (.cons (.set 6 (.sub (.lst (.cons (.cst (.int 1)) (.cons (.cst (.int 1)) (.cons (.bin .sub (.cst (.int 0)) (.cst (.int 1))) (.cons (.cst (.int 2)) (.cons (.bin .sub (.cst (.int 0)) (.cst (.int 2))) (.cons (.bin .add (.cst (.int 1)) (.call .Ldrawn (.cons (.var 0) (.cons (.cst (.int 8)) .nil)))) (.cons (.bin .sub (.bin .sub (.cst (.int 0)) (.cst (.int 1))) (.call .Ldrawn (.cons (.var 0) (.cons (.cst (.int 8)) .nil)))) .nil)))))))) (.call .Ldrawn (.cons (.var 0) (.cons (.cst (.int 7)) .nil))))) (.cons (.set 7 (.lst (.cons (.bin .sub (.call .Ldrawn (.cons (.var 0) (.cons (.bin .add (.var 5) (.cst (.int 2))) .nil))) (.cst (.int 1))) (.cons (.bin .sub (.call .Ldrawn (.cons (.var 0) (.cons (.bin .add (.var 5) (.cst (.int 2))) .nil))) (.cst (.int 1))) .nil)))) (.cons (.set 7 (.sub (.lst (.cons (.lst (.cons (.cst (.int 0)) (.cons (.var 5) .nil))) (.cons (.lst (.cons (.bin .sub (.var 5) (.cst (.int 1))) (.cons (.bin .sub (.cst (.int 0)) (.cst (.int 1))) .nil))) (.cons (.var 7) .nil)))) (.sub (.lst (.cons (.op1 .intb (.cmp .lt (.var 6) (.cst (.int 0)))) (.cons (.cst (.int 2)) .nil))) (.call .Ldrawn (.cons (.var 0) (.cons (.cst (.int 2)) .nil)))))) (.cons (.ret (.tup (.cons (.cst (.str "cut")) (.cons (.var 4) (.cons (.sub (.var 7) (.cst (.int 0))) (.cons (.sub (.var 7) (.cst (.int 1))) (.cons (.var 6) .nil))))))) .nil)))) .nil) (.cons (.ife (.cmp .eq (.var 3) (.cst (.int 3))) (.cons (.ret (.tup (.cons (.cst (.str "pick")) (.cons (.var 4) (.cons (.call .Ldrawn (.cons (.var 0) (.cons (.bin .add (.var 5) (.cst (.int 1))) .nil))) .nil))))) .nil) .nil) (.cons (.ife (.cmp .lt (.var 3) (.cst (.int 6))) (.cons (.heap 8 (.rgc false 1 (.cons (.bi .len (.cons (.var 2) .nil)) .nil))) (.cons (.ret (.tup (.cons (.cst (.str "turned")) (.cons (.bi .tuple (.cons (.lc (.nm 11) (.rng 1 (.cons (.bi .len (.cons (.var 2) .nil)) .nil)) .none (.popL (.var 8) (.call .Ldrawn (.cons (.var 0) (.cons (.bi .len (.cons (.var 8) .nil)) .nil))))) .nil)) .nil)))) .nil)) .nil) (.cons (.ife (.cmp .lt (.var 3) (.cst (.int 8))) (.cons (.set 9 (.sub (.lst (.cons (.cst (.int 4)) (.cons (.cst (.int 4)) (.cons (.cst (.int 8)) .nil)))) (.call .Ldrawn (.cons (.var 0) (.cons (.cst (.int 3)) .nil))))) (.cons (.set 10 (.bi .tuple (.cons (.lc (.nm 11) (.seq (.var 2)) .none (.sub (.lst (.cons (.var 11) (.cons (.bin .add (.cst (.int 1)) (.call .Ldrawn (.cons (.var 0) (.cons (.var 9) .nil)))) .nil))) (.op1 .intb (.cmp .eq (.var 11) (.cst (.int 1)))))) .nil))) (.cons (.ret (.tup (.cons (.cst (.str "over")) (.cons (.slc (.bin .add (.bin .mul (.tup (.cons (.bin .add (.cst (.int 1)) (.call .Ldrawn (.cons (.var 0) (.cons (.var 9) .nil)))) .nil)) (.call .Ldrawn (.cons (.var 0) (.cons (.cst (.int 2)) .nil)))) (.var 10)) (.some (.bin .sub (.cst (.int 0)) (.cst (.int 3)))) .none) .nil)))) .nil))) .nil) (.cons (.ret (.tup (.cons (.cst (.str "shaped")) (.cons (.call .Lother_sides (.cons (.var 0) (.cons (.var 2) .nil))) .nil)))) .nil)))))))))
def bLother_sides_1 : EV.Ss Fu := (.cons (.set 2 (.bin .mul (.var 2) (.var 3))) .nil)
/-- Lother_sides : 0=_law_state 1=_law_sides_here 2=_law_many 3=_law_side 4=_law_some 5=_law_one 6=_law_other -/
def bLother_sides : EV.Ss Fu := (.cons (.set 2 (.cst (.int 1))) (.cons (.for_ (.nm 3) (.seq (.var 1)) bLother_sides_1) (.cons (.set 4 (.lc (.nm 5) (.rng 2 (.cons (.cst (.int 1)) (.cons (.cst (.int 9)) .nil))) (.some (.and (.cons (.cmp .eq (.bin .mod (.var 2) (.var 5)) (.cst (.int 0))) (.cons (.cmp .le (.bin .fdiv (.var 2) (.var 5)) (.cst (.int 8))) .nil)))) (.tup (.cons (.var 5) (.cons (.bin .fdiv (.var 2) (.var 5)) .nil))))) (.cons (.set 4 (.bin .add (.var 4) (.lst (.cons (.op1 .rvs (.var 1)) (.cons (.bin .add (.tup (.cons (.cst (.int 1)) .nil)) (.slc (.var 1) .none (.some (.cst (.int 2))))) (.cons (.bi .tuple (.cons (.lc (.nm 5) (.seq (.var 1)) (.some (.cmp .ne (.var 5) (.cst (.int 1)))) (.var 5)) .nil)) .nil)))))) (.cons (.par 5 6 (.bin .add (.cst (.int 1)) (.call .Ldrawn (.cons (.var 0) (.cons (.cst (.int 4)) .nil)))) (.bin .add (.cst (.int 1)) (.call .Ldrawn (.cons (.var 0) (.cons (.cst (.int 4)) .nil))))) (.cons (.set 4 (.bin .add (.var 4) (.lst (.cons (.tup (.cons (.cst (.int 2)) (.cons (.cst (.int 2)) (.cons (.bin .fdiv (.var 2) (.cst (.int 4))) .nil)))) (.cons (.tup (.cons (.var 5) (.cons (.var 6) (.cons (.bin .fdiv (.var 2) (.bin .mul (.var 5) (.var 6))) .nil)))) (.cons (.tup (.cons (.bin .fdiv (.var 2) (.bin .mul (.var 5) (.var 6))) (.cons (.var 5) (.cons (.var 6) .nil)))) .nil)))))) (.cons (.ret (.sub (.var 4) (.call .Ldrawn (.cons (.var 0) (.cons (.bi .len (.cons (.var 4) .nil)) .nil))))) .nil)))))))
/-- Lthrough : 0=_law_look_here 1=_law_way_here 2=_law_found 3=_law_step -/
def bLthrough : EV.Ss Fu := (.cons (.set 2 (.call .Lled (.cons (.var 0) (.cons (.var 1) .nil)))) (.cons (.ife (.or (.cons (.cmp .isn (.var 2) (.cst .non)) (.cons (.not (.ch2 .le .lt (.cst (.int 0)) (.sub (.var 2) (.cst (.int 0))) (.cst (.int 512)))) (.cons (.cmp .ne (.lc (.nm 3) (.seq (.sub (.var 2) (.cst (.int 2)))) (.some (.not (.ch2 .le .le (.bin .sub (.cst (.int 0)) (.cst (.int 512))) (.var 3) (.cst (.int 512))))) (.var 3)) (.lst .nil)) .nil)))) (.cons (.ret (.cst .non)) .nil) .nil) (.cons (.ret (.var 2)) .nil)))
def bLled_1 : EV.Ss Fu := (.cons (.app 6 (.var 7)) (.cons (.set 7 (.bin .add (.var 7) (.var 11))) .nil))
/-- Lled : 0=_law_look_here 1=_law_way_here 2=_law_start_here 3=_law_sides_here 4=_law_steps 5=_law_k 6=_law_some 7=_law_here 8=_law_step 9=_law_begin 10=_law_end 11=_law_stride 12=_law_one -/
def bLled : EV.Ss Fu := (.cons (.unp [2, 3, 4] (.var 0)) (.cons (.ife (.cmp .inn (.sub (.var 1) (.cst (.int 0))) (.tup (.cons (.cst (.str "cut")) (.cons (.cst (.str "pick")) .nil)))) (.cons (.set 5 (.sub (.var 1) (.cst (.int 1)))) (.cons (.ife (.not (.ch2 .le .lt (.cst (.int 0)) (.var 5) (.bi .len (.cons (.var 3) .nil)))) (.cons (.ret (.cst .non)) .nil) .nil) .nil)) .nil) (.cons (.ife (.cmp .eq (.sub (.var 1) (.cst (.int 0))) (.cst (.str "cut"))) (.cons (.unp [9, 10, 11] (.slc (.var 1) (.some (.cst (.int 2))) .none)) (.cons (.own 6 (.lst .nil)) (.cons (.set 7 (.var 9)) (.cons (.whl (.or (.cons (.and (.cons (.cmp .gt (.var 11) (.cst (.int 0))) (.cons (.cmp .lt (.var 7) (.var 10)) .nil))) (.cons (.and (.cons (.cmp .lt (.var 11) (.cst (.int 0))) (.cons (.cmp .gt (.var 7) (.var 10)) .nil))) .nil))) bLled_1) (.cons (.frz 6) (.cons (.ife (.or (.cons (.cmp .eq (.var 11) (.cst (.int 0))) (.cons (.cmp .ne (.lc (.nm 12) (.seq (.var 6)) (.some (.not (.ch2 .le .lt (.cst (.int 0)) (.var 12) (.sub (.var 3) (.var 5))))) (.var 12)) (.lst .nil)) .nil))) (.cons (.ret (.cst .non)) .nil) .nil) (.cons (.ife (.or (.cons (.not (.ch2 .le .le (.bin .sub (.cst (.int 0)) (.cst (.int 1))) (.var 9) (.sub (.var 3) (.var 5)))) (.cons (.not (.ch2 .le .le (.bin .sub (.cst (.int 0)) (.cst (.int 1))) (.var 10) (.sub (.var 3) (.var 5)))) (.cons (.not (.ch2 .le .le (.bin .sub (.cst (.int 0)) (.cst (.int 8))) (.var 11) (.cst (.int 8)))) .nil)))) (.cons (.ret (.cst .non)) .nil) .nil) (.cons (.set 2 (.ife (.cmp .ne (.var 6) (.lst .nil)) (.bin .add (.var 2) (.bin .mul (.sub (.var 4) (.var 5)) (.sub (.bin .add (.var 6) (.lst (.cons (.cst (.int 0)) .nil))) (.cst (.int 0))))) (.var 2))) (.cons (.set 8 (.bin .mul (.bin .mul (.sub (.var 4) (.var 5)) (.var 11)) (.op1 .intb (.cmp .gt (.bi .len (.cons (.var 6) .nil)) (.cst (.int 1)))))) (.cons (.ret (.tup (.cons (.var 2) (.cons (.bin .add (.bin .add (.slc (.var 3) .none (.some (.var 5))) (.tup (.cons (.bi .len (.cons (.var 6) .nil)) .nil))) (.slc (.var 3) (.some (.bin .add (.var 5) (.cst (.int 1)))) .none)) (.cons (.bin .add (.bin .add (.slc (.var 4) .none (.some (.var 5))) (.tup (.cons (.var 8) .nil))) (.slc (.var 4) (.some (.bin .add (.var 5) (.cst (.int 1)))) .none)) .nil))))) .nil)))))))))) .nil) (.cons (.ife (.cmp .eq (.sub (.var 1) (.cst (.int 0))) (.cst (.str "pick"))) (.cons (.ife (.not (.ch2 .le .lt (.cst (.int 0)) (.sub (.var 1) (.cst (.int 2))) (.sub (.var 3) (.var 5)))) (.cons (.ret (.cst .non)) .nil) .nil) (.cons (.ret (.tup (.cons (.bin .add (.var 2) (.bin .mul (.sub (.var 4) (.var 5)) (.sub (.var 1) (.cst (.int 2))))) (.cons (.bin .add (.slc (.var 3) .none (.some (.var 5))) (.slc (.var 3) (.some (.bin .add (.var 5) (.cst (.int 1)))) .none)) (.cons (.bin .add (.slc (.var 4) .none (.some (.var 5))) (.slc (.var 4) (.some (.bin .add (.var 5) (.cst (.int 1)))) .none)) .nil))))) .nil)) .nil) (.cons (.ife (.cmp .eq (.sub (.var 1) (.cst (.int 0))) (.cst (.str "turned"))) (.cons (.ife (.cmp .ne (.op1 .sorted (.sub (.var 1) (.cst (.int 1)))) (.rgc false 1 (.cons (.bi .len (.cons (.var 3) .nil)) .nil))) (.cons (.ret (.cst .non)) .nil) .nil) (.cons (.ret (.tup (.cons (.var 2) (.cons (.bi .tuple (.cons (.lc (.nm 12) (.seq (.sub (.var 1) (.cst (.int 1)))) .none (.sub (.var 3) (.var 12))) .nil)) (.cons (.bi .tuple (.cons (.lc (.nm 12) (.seq (.sub (.var 1) (.cst (.int 1)))) .none (.sub (.var 4) (.var 12))) .nil)) .nil))))) .nil)) .nil) (.cons (.ife (.or (.cons (.cmp .gt (.bi .len (.cons (.sub (.var 1) (.cst (.int 1))) .nil)) (.cst (.int 3))) (.cons (.cmp .ne (.lc (.nm 12) (.seq (.sub (.var 1) (.cst (.int 1)))) (.some (.not (.ch2 .le .le (.cst (.int 0)) (.var 12) (.cst (.int 8))))) (.var 12)) (.lst .nil)) .nil))) (.cons (.ret (.cst .non)) .nil) .nil) (.cons (.ret (.ife (.cmp .eq (.sub (.var 1) (.cst (.int 0))) (.cst (.str "over"))) (.call .Lover (.cons (.var 0) (.cons (.sub (.var 1) (.cst (.int 1))) .nil))) (.call .Lshaped (.cons (.var 0) (.cons (.sub (.var 1) (.cst (.int 1))) .nil))))) .nil)))))))
def bLover_1 : EV.Ss Fu := (.cons (.set 5 (.sub (.sub (.var 0) (.cst (.int 1))) (.var 4))) (.cons (.ife (.or (.cons (.cmp .lt (.var 2) (.cst (.int 0))) (.cons (.and (.cons (.cmp .ne (.var 5) (.sub (.var 1) (.bin .add (.var 2) (.var 4)))) (.cons (.cmp .ne (.var 5) (.cst (.int 1))) .nil))) .nil))) (.cons (.ret (.cst .non)) .nil) .nil) (.cons (.set 3 (.bin .add (.var 3) (.tup (.cons (.bin .mul (.sub (.sub (.var 0) (.cst (.int 2))) (.var 4)) (.op1 .intb (.cmp .eq (.var 5) (.sub (.var 1) (.bin .add (.var 2) (.var 4)))))) .nil)))) .nil)))
/-- Lover : 0=_law_look_here 1=_law_wide 2=_law_more 3=_law_found 4=_law_k 5=_law_side -/
def bLover : EV.Ss Fu := (.cons (.set 2 (.bin .sub (.bi .len (.cons (.var 1) .nil)) (.bi .len (.cons (.sub (.var 0) (.cst (.int 1))) .nil)))) (.cons (.set 3 (.bin .mul (.tup (.cons (.cst (.int 0)) .nil)) (.bi .max (.cons (.cst (.int 0)) (.cons (.var 2) .nil))))) (.cons (.for_ (.nm 4) (.rng 1 (.cons (.bi .len (.cons (.sub (.var 0) (.cst (.int 1))) .nil)) .nil)) bLover_1) (.cons (.ret (.ife (.cmp .ge (.var 2) (.cst (.int 0))) (.tup (.cons (.sub (.var 0) (.cst (.int 0))) (.cons (.var 1) (.cons (.var 3) .nil)))) (.cst .non))) .nil))))
def bLshaped_1 : EV.Ss Fu := (.cons (.set 7 (.bi .tuple (.cons (.lc (.nm 9) (.rng 1 (.cons (.bi .len (.cons (.var 1) .nil)) .nil)) .none (.op1 .intb (.cmp .eq (.var 9) (.var 5)))) .nil))) (.cons (.set 8 (.ife (.cmp .gt (.sub (.var 1) (.var 5)) (.cst (.int 1))) (.bin .sub (.sub (.var 2) (.op2 .idx (.var 3) (.var 7))) (.sub (.var 2) (.cst (.int 0)))) (.cst (.int 0)))) (.cons (.set 4 (.bin .add (.var 4) (.tup (.cons (.var 8) .nil)))) .nil)))
/-- Lshaped : 0=_law_look_here 1=_law_sides_here 2=_law_every 3=_law_places_here 4=_law_steps 5=_law_k 6=_law_found 7=_law_unit 8=_law_far_here 9=_law_j -/
def bLshaped : EV.Ss Fu := (.cons (.set 2 (.call .Lcells (.cons (.var 0) .nil))) (.cons (.set 3 (.call .Lplaces (.cons (.var 1) .nil))) (.cons (.ife (.cmp .ne (.bi .len (.cons (.var 2) .nil)) (.bi .len (.cons (.var 3) .nil))) (.cons (.ret (.cst .non)) .nil) .nil) (.cons (.ife (.cmp .eq (.var 2) (.lst .nil)) (.cons (.ret (.tup (.cons (.sub (.var 0) (.cst (.int 0))) (.cons (.var 1) (.cons (.bin .mul (.tup (.cons (.cst (.int 0)) .nil)) (.bi .len (.cons (.var 1) .nil))) .nil))))) .nil) .nil) (.cons (.set 4 (.tup .nil)) (.cons (.for_ (.nm 5) (.rng 1 (.cons (.bi .len (.cons (.var 1) .nil)) .nil)) bLshaped_1) (.cons (.set 6 (.tup (.cons (.sub (.var 2) (.cst (.int 0))) (.cons (.var 1) (.cons (.var 4) .nil))))) (.cons (.ret (.ife (.cmp .eq (.call .Lcells (.cons (.var 6) .nil)) (.var 2)) (.var 6) (.cst .non))) .nil))))))))
/-- Lodd : 0=_law_state 1=_law_look_here 2=_law_sides_here 3=_law_far_here 4=_law_some -/
def bLodd : EV.Ss Fu := (.cons (.set 2 (.sub (.var 1) (.cst (.int 1)))) (.cons (.set 3 (.call .Lfar (.cons (.var 0) (.cons (.bin .sub (.cst (.int 0)) (.cst (.int 8))) (.cons (.cst (.int 8)) .nil))))) (.cons (.set 4 (.lst (.cons (.tup .nil) (.cons (.tup (.cons (.cst (.str "cut")) (.cons (.cst (.int 0)) (.cons (.cst (.int 0)) (.cons (.cst (.int 0)) .nil))))) (.cons (.tup (.cons (.cst (.str "Cut")) (.cons (.cst (.int 0)) (.cons (.cst (.int 0)) (.cons (.cst (.int 0)) (.cons (.cst (.int 1)) .nil)))))) (.cons (.tup (.cons (.cst (.str "cut")) (.cons (.bi .len (.cons (.var 2) .nil)) (.cons (.cst (.int 0)) (.cons (.cst (.int 0)) (.cons (.cst (.int 1)) .nil)))))) (.cons (.tup (.cons (.cst (.str "cut")) (.cons (.cst (.int 0)) (.cons (.cst (.int 0)) (.cons (.var 3) (.cons (.cst (.int 1)) .nil)))))) (.cons (.tup (.cons (.cst (.str "pick")) (.cons (.cst (.int 0)) .nil))) .nil)))))))) (.cons (.set 4 (.bin .add (.var 4) (.lst (.cons (.tup (.cons (.cst (.str "cut")) (.cons (.cst (.int 0)) (.cons (.cst (.int 0)) (.cons (.cst (.int 0)) (.cons (.var 3) .nil)))))) (.cons (.tup (.cons (.cst (.str "cut")) (.cons (.cst (.int 0)) (.cons (.cst (.int 0)) (.cons (.cst (.int 0)) (.cons (.cst (.int 0)) .nil)))))) (.cons (.tup (.cons (.cst (.str "pick")) (.cons (.bin .sub (.cst (.int 0)) (.cst (.int 1))) (.cons (.cst (.int 0)) .nil)))) (.cons (.tup (.cons (.cst (.str "turned")) (.cons (.bin .mul (.tup (.cons (.cst (.int 0)) .nil)) (.bin .add (.bi .len (.cons (.var 2) .nil)) (.cst (.int 2)))) .nil))) .nil))))))) (.cons (.set 4 (.bin .add (.var 4) (.lst (.cons (.tup (.cons (.cst (.str "turned")) (.cons (.bi .len (.cons (.var 2) .nil)) .nil))) (.cons (.tup (.cons (.cst (.str "over")) (.cons (.cst (.int 5)) .nil))) (.cons (.tup (.cons (.cst (.str "over")) (.cons (.bin .add (.tup (.cons (.var 3) .nil)) (.slc (.var 2) (.some (.cst (.int 1))) .none)) .nil))) (.cons (.tup (.cons (.cst (.str "shaped")) (.cons (.tup (.cons (.cst (.int 9)) .nil)) .nil))) (.cons (.tup (.cons (.cst (.str "shaped")) (.cons (.cst (.int 4)) .nil))) .nil)))))))) (.cons (.set 4 (.bin .add (.var 4) (.lst (.cons (.tup (.cons (.cst (.str "over")) (.cons (.tup (.cons (.cst (.int 1)) (.cons (.cst (.int 1)) (.cons (.cst (.int 1)) (.cons (.cst (.int 1)) .nil))))) .nil))) (.cons (.tup (.cons (.cst (.str "turned")) (.cons (.tup (.cons (.cst (.bl true)) (.cons (.cst (.bl false)) .nil))) .nil))) (.cons (.tup (.cons (.cst (.str "shaped")) .nil)) (.cons (.tup (.cons (.cst (.str "pick")) (.cons (.cst (.int 0)) (.cons (.var 3) .nil)))) (.cons (.tup (.cons (.cst (.str "")) (.cons (.cst (.int 1)) .nil))) .nil)))))))) (.cons (.ret (.sub (.var 4) (.call .Ldrawn (.cons (.var 0) (.cons (.cst (.int 20)) .nil))))) .nil)))))))
/- LAW03 not covered: expr Lambda(args=arguments(posonlyargs=[], args=[], kwonlyargs=[], kw_defaults=[], de -/
/-- LAW03 : 0=_law_script 1=_law_state 2=_law_turn 3=_law_look_here 4=_law_again 5=_law_odd_here 6=_law_way_here 7=_law_due -/
def bLAW03 : EV.Ss Fu := (.cons .never (.cons .never (.cons .never .nil)))
/-- Lwhence : 0=_law_sides_here 1=_law_way_here 2=_law_place 3=_law_order 4=_law_k 5=_law_last 6=_law_wide -/
def bLwhence : EV.Ss Fu := (.cons (.ife (.cmp .eq (.sub (.var 1) (.cst (.int 0))) (.cst (.str "cut"))) (.cons (.set 4 (.sub (.var 1) (.cst (.int 1)))) (.cons (.ret (.bin .add (.bin .add (.slc (.var 2) .none (.some (.var 4))) (.tup (.cons (.bin .add (.sub (.var 1) (.cst (.int 2))) (.bin .mul (.sub (.var 2) (.var 4)) (.sub (.var 1) (.cst (.int 4))))) .nil))) (.slc (.var 2) (.some (.bin .add (.var 4) (.cst (.int 1)))) .none))) .nil)) .nil) (.cons (.ife (.cmp .eq (.sub (.var 1) (.cst (.int 0))) (.cst (.str "pick"))) (.cons (.ret (.bin .add (.bin .add (.slc (.var 2) .none (.some (.sub (.var 1) (.cst (.int 1))))) (.tup (.cons (.sub (.var 1) (.cst (.int 2))) .nil))) (.slc (.var 2) (.some (.sub (.var 1) (.cst (.int 1)))) .none))) .nil) .nil) (.cons (.ife (.cmp .eq (.sub (.var 1) (.cst (.int 0))) (.cst (.str "turned"))) (.cons (.ret (.bi .tuple (.cons (.lc (.nm 4) (.rng 1 (.cons (.bi .len (.cons (.var 0) .nil)) .nil)) .none (.sub (.var 2) (.op2 .idx (.sub (.var 1) (.cst (.int 1))) (.var 4)))) .nil))) .nil) .nil) (.cons (.ife (.cmp .eq (.sub (.var 1) (.cst (.int 0))) (.cst (.str "over"))) (.cons (.set 5 (.slc (.var 2) (.some (.bin .sub (.bi .len (.cons (.var 2) .nil)) (.bi .len (.cons (.var 0) .nil)))) .none)) (.cons (.set 6 (.slc (.sub (.var 1) (.cst (.int 1))) (.some (.bin .sub (.bi .len (.cons (.var 2) .nil)) (.bi .len (.cons (.var 0) .nil)))) .none)) (.cons (.ret (.bi .tuple (.cons (.lc (.nm 4) (.rng 1 (.cons (.bi .len (.cons (.var 0) .nil)) .nil)) .none (.bin .mul (.sub (.var 5) (.var 4)) (.op1 .intb (.cmp .eq (.sub (.var 0) (.var 4)) (.sub (.var 6) (.var 4)))))) .nil))) .nil))) .nil) (.cons (.ret (.sub (.call .Lplaces (.cons (.var 0) .nil)) (.var 3))) .nil)))))
/- LAW04 not covered: call dict -/
/-- LAW04 : 0=_law_script 1=_law_state 2=_law_turn 3=_law_look_here 4=_law_again 5=_law_way_here 6=_law_other 7=_law_known 8=_law_places_here 9=_law_told 10=_law_number -/
def bLAW04 : EV.Ss Fu := (.cons .never (.cons .never (.cons .never .nil)))
/- Lsome_steps not covered: call set -/
/-- Lsome_steps : 0=_law_every 1=_law_sides_here 2=_law_ahead 3=_law_step 4=_law_cell_here -/
def bLsome_steps : EV.Ss Fu := (.cons .never (.cons .never (.cons .never .nil)))
/- LAW05 not covered: expr Lambda(args=arguments(posonlyargs=[], args=[], kwonlyargs=[], kw_defaults=[], de -/
/-- LAW05 : 0=_law_script 1=_law_state 2=_law_turn 3=_law_look_here 4=_law_every 5=_law_sides_here 6=_law_many 7=_law_found 8=_law_may 9=_law_back -/
def bLAW05 : EV.Ss Fu := (.cons .never (.cons .never (.cons .never .nil)))
def bLAW06_1 : EV.Ss Fu := (.cons (.set 17 (.lst (.cons (.tup (.cons (.cst (.str "cut")) (.cons (.var 9) (.cons (.var 12) (.cons (.var 10) (.cons (.cst (.int 1)) .nil)))))) (.cons (.tup (.cons (.cst (.str "cut")) (.cons (.var 14) (.cons (.bin .sub (.sub (.var 4) (.var 14)) (.cst (.int 1))) (.cons (.bin .sub (.cst (.int 0)) (.cst (.int 1))) (.cons (.bin .sub (.cst (.int 0)) (.cst (.int 1))) .nil)))))) .nil)))) (.cons (.par 16 18 (.call .through (.cons (.call .through (.cons (.var 3) (.cons (.op2 .dget (.var 17) (.cst (.int 0))) .nil))) (.cons (.op2 .dget (.var 17) (.cst (.int 1))) .nil))) (.call .through (.cons (.call .through (.cons (.var 3) (.cons (.op2 .dget (.var 17) (.cst (.int 1))) .nil))) (.cons (.op2 .dget (.var 17) (.cst (.int 0))) .nil)))) (.cons (.ife (.or (.cons (.cmp .ne (.call .cells (.cons (.var 16) .nil)) (.call .cells (.cons (.var 18) .nil))) (.cons (.cmp .ne (.sub (.var 16) (.cst (.int 1))) (.sub (.var 18) (.cst (.int 1)))) .nil))) (.cons (.ret (.cst (.bl false))) .nil) .nil) .nil)))
def bLAW06_2 : EV.Ss Fu := (.cons (.set 10 (.sub (.var 4) (.var 9))) (.cons (.set 11 (.call .through (.cons (.var 3) (.cons (.tup (.cons (.cst (.str "cut")) (.cons (.var 9) (.cons (.bin .sub (.var 10) (.cst (.int 1))) (.cons (.bin .sub (.cst (.int 0)) (.cst (.int 1))) (.cons (.bin .sub (.cst (.int 0)) (.cst (.int 1))) .nil)))))) .nil)))) (.cons (.ife (.cmp .ne (.call .cells (.cons (.call .through (.cons (.var 11) (.cons (.tup (.cons (.cst (.str "cut")) (.cons (.var 9) (.cons (.bin .sub (.var 10) (.cst (.int 1))) (.cons (.bin .sub (.cst (.int 0)) (.cst (.int 1))) (.cons (.bin .sub (.cst (.int 0)) (.cst (.int 1))) .nil)))))) .nil))) .nil)) (.call .cells (.cons (.var 3) .nil))) (.cons (.ret (.cst (.bl false))) .nil) .nil) (.cons (.set 12 (.call .Ldrawn (.cons (.var 1) (.cons (.bin .add (.var 10) (.cst (.int 1))) .nil)))) (.cons (.set 13 (.call .through (.cons (.var 3) (.cons (.tup (.cons (.cst (.str "cut")) (.cons (.var 9) (.cons (.var 12) (.cons (.var 10) (.cons (.cst (.int 1)) .nil)))))) .nil)))) (.cons (.ife (.cmp .ne (.call .cells (.cons (.call .through (.cons (.var 13) (.cons (.tup (.cons (.cst (.str "cut")) (.cons (.var 9) (.cons (.cst (.int 0)) (.cons (.bin .sub (.var 10) (.var 12)) (.cons (.cst (.int 2)) .nil)))))) .nil))) .nil)) (.call .cells (.cons (.call .through (.cons (.var 3) (.cons (.tup (.cons (.cst (.str "cut")) (.cons (.var 9) (.cons (.var 12) (.cons (.var 10) (.cons (.cst (.int 2)) .nil)))))) .nil))) .nil))) (.cons (.ret (.cst (.bl false))) .nil) .nil) (.cons (.ife (.cmp .gt (.var 10) (.cst (.int 0))) (.cons (.set 15 (.call .Ldrawn (.cons (.var 1) (.cons (.var 10) .nil)))) (.cons (.set 16 (.call .through (.cons (.var 3) (.cons (.tup (.cons (.cst (.str "cut")) (.cons (.var 9) (.cons (.var 15) (.cons (.bin .add (.var 15) (.cst (.int 1))) (.cons (.cst (.int 1)) .nil)))))) .nil)))) (.cons (.ife (.cmp .ne (.call .cells (.cons (.var 16) .nil)) (.call .cells (.cons (.call .through (.cons (.var 3) (.cons (.tup (.cons (.cst (.str "pick")) (.cons (.var 9) (.cons (.var 15) .nil)))) .nil))) .nil))) (.cons (.ret (.cst (.bl false))) .nil) .nil) .nil))) .nil) (.cons (.for_ (.nm 14) (.rng 1 (.cons (.var 9) .nil)) bLAW06_1) .nil))))))))
def bLAW06_3 : EV.Ss Fu := (.cons (.set 3 (.call .Llook (.cons (.var 1) .nil))) (.cons (.set 4 (.sub (.var 3) (.cst (.int 1)))) (.cons (.set 5 (.rgc false 1 (.cons (.bi .len (.cons (.var 4) .nil)) .nil))) (.cons (.set 6 (.bi .tuple (.cons (.lc (.nm 16) (.rng 1 (.cons (.bi .len (.cons (.var 4) .nil)) .nil)) .none (.popL (.var 5) (.call .Ldrawn (.cons (.var 1) (.cons (.bi .len (.cons (.var 5) .nil)) .nil))))) .nil))) (.cons (.set 7 (.bi .tuple (.cons (.lc (.nm 9) (.rng 1 (.cons (.bi .len (.cons (.var 4) .nil)) .nil)) .none (.op2 .idx (.var 6) (.var 9))) .nil))) (.cons (.ife (.cmp .ne (.call .through (.cons (.call .through (.cons (.var 3) (.cons (.tup (.cons (.cst (.str "turned")) (.cons (.var 6) .nil))) .nil))) (.cons (.tup (.cons (.cst (.str "turned")) (.cons (.var 7) .nil))) .nil))) (.var 3)) (.cons (.ret (.cst (.bl false))) .nil) .nil) (.cons (.set 8 (.bin .add (.tup (.cons (.cst (.int 2)) .nil)) (.var 4))) (.cons (.ife (.cmp .lt (.bi .len (.cons (.var 8) .nil)) (.cst (.int 4))) (.cons (.ife (.cmp .ne (.call .through (.cons (.call .through (.cons (.var 3) (.cons (.tup (.cons (.cst (.str "over")) (.cons (.var 8) .nil))) .nil))) (.cons (.tup (.cons (.cst (.str "pick")) (.cons (.cst (.int 0)) (.cons (.call .Ldrawn (.cons (.var 1) (.cons (.cst (.int 2)) .nil))) .nil)))) .nil))) (.var 3)) (.cons (.ret (.cst (.bl false))) .nil) .nil) .nil) .nil) (.cons (.for_ (.nm 9) (.rng 1 (.cons (.bi .len (.cons (.var 4) .nil)) .nil)) bLAW06_2) .nil)))))))))
/-- LAW06 : 0=_law_script 1=_law_state 2=_law_turn 3=_law_look_here 4=_law_sides_here 5=_law_left 6=_law_order 7=_law_back 8=_law_wide 9=_law_k 10=_law_side 11=_law_turn_back 12=_law_begin 13=_law_half 14=_law_j 15=_law_place 16=_law_one 17=_law_ways 18=_law_other -/
def bLAW06 : EV.Ss Fu := (.cons (.heap 1 (.call .Lstart (.cons (.var 0) .nil))) (.cons (.for_ (.nm 2) (.rng 1 (.cons (.cst (.int 8)) .nil)) bLAW06_3) (.cons (.ret (.cst (.bl true))) .nil)))
def bLmeets_1 : EV.Ss Fu := (.cons (.set 5 (.call .Lcell (.cons (.var 0) (.cons (.var 4) .nil)))) (.cons (.ife (.cmp .inn (.var 5) (.var 2)) (.cons (.ret (.tup (.cons (.var 4) (.cons (.sub (.var 3) (.op2 .idx (.var 2) (.var 5))) .nil)))) .nil) .nil) .nil))
/-- Lmeets : 0=_law_one 1=_law_other 2=_law_theirs 3=_law_places_here 4=_law_place 5=_law_cell_here -/
def bLmeets : EV.Ss Fu := (.cons (.set 2 (.call .Lcells (.cons (.var 1) .nil))) (.cons (.set 3 (.call .Lplaces (.cons (.sub (.var 1) (.cst (.int 1))) .nil))) (.cons (.for_ (.nm 4) (.seq (.call .Lplaces (.cons (.sub (.var 0) (.cst (.int 1))) .nil))) bLmeets_1) (.cons (.ret (.cst .non)) .nil))))
def bLtwice_1 : EV.Ss Fu := (.cons (.ife (.cmp .inn (.sub (.var 1) (.var 3)) (.slc (.var 1) (.some (.bin .add (.var 3) (.cst (.int 1)))) .none)) (.cons (.ret (.tup (.cons (.sub (.var 2) (.var 3)) (.cons (.sub (.var 2) (.bin .add (.bin .add (.var 3) (.cst (.int 1))) (.op2 .idx (.slc (.var 1) (.some (.bin .add (.var 3) (.cst (.int 1)))) .none) (.sub (.var 1) (.var 3))))) .nil)))) .nil) .nil) .nil)
/-- Ltwice : 0=_law_look_here 1=_law_every 2=_law_places_here 3=_law_k -/
def bLtwice : EV.Ss Fu := (.cons (.set 1 (.call .Lcells (.cons (.var 0) .nil))) (.cons (.set 2 (.call .Lplaces (.cons (.sub (.var 0) (.cst (.int 1))) .nil))) (.cons (.for_ (.nm 3) (.rng 1 (.cons (.bi .len (.cons (.var 1) .nil)) .nil)) bLtwice_1) (.cons (.ret (.cst .non)) .nil))))
def bLAW07_1 : EV.Ss Fu := (.cons (.ife (.not (.call .Lsame (.cons (.lst (.cons (.call .meets (.cons (.var 4) (.cons (.var 5) .nil))) (.cons (.call .meets (.cons (.var 5) (.cons (.var 4) .nil))) .nil))) (.cons (.lst (.cons (.call .Lmeets (.cons (.var 4) (.cons (.var 5) .nil))) (.cons (.call .Lmeets (.cons (.var 5) (.cons (.var 4) .nil))) .nil))) .nil)))) (.cons (.ret (.cst (.bl false))) .nil) .nil) (.cons (.ife (.not (.call .Lsame (.cons (.lst (.cons (.call .twice (.cons (.var 4) .nil)) (.cons (.call .twice (.cons (.var 5) .nil)) .nil))) (.cons (.lst (.cons (.call .Ltwice (.cons (.var 4) .nil)) (.cons (.call .Ltwice (.cons (.var 5) .nil)) .nil))) .nil)))) (.cons (.ret (.cst (.bl false))) .nil) .nil) .nil))
def bLAW07_2 : EV.Ss Fu := (.cons (.par 4 5 (.call .Llook (.cons (.var 1) .nil)) (.call .Llook (.cons (.var 1) .nil))) (.cons (.ife (.cmp .eq (.call .Ldrawn (.cons (.var 1) (.cons (.cst (.int 2)) .nil))) (.cst (.int 1))) (.cons (.set 6 (.call .Lthrough (.cons (.var 4) (.cons (.call .Lway (.cons (.var 1) (.cons (.var 4) .nil))) .nil)))) (.cons (.set 5 (.ife (.cmp .isn (.var 6) (.cst .non)) (.var 5) (.var 6))) .nil)) .nil) (.cons (.for_ (.nm 3) (.rng 1 (.cons (.cst (.int 2)) .nil)) bLAW07_1) .nil)))
/-- LAW07 : 0=_law_script 1=_law_state 2=_law_turn 3=_law_again 4=_law_one 5=_law_other 6=_law_told -/
def bLAW07 : EV.Ss Fu := (.cons (.heap 1 (.call .Lstart (.cons (.var 0) .nil))) (.cons (.for_ (.nm 2) (.rng 1 (.cons (.cst (.int 10)) .nil)) bLAW07_2) (.cons (.ret (.cst (.bl true))) .nil)))
def bLpair_1 : EV.Ss Fu := (.cons (.set 4 (.call .Lthrough (.cons (.var 2) (.cons (.call .Lway (.cons (.var 0) (.cons (.var 2) .nil))) .nil)))) (.cons (.set 2 (.ife (.cmp .isn (.var 4) (.cst .non)) (.var 2) (.var 4))) .nil))
/-- Lpair : 0=_law_state 1=_law_one 2=_law_other 3=_law_turn 4=_law_told 5=_law_some 6=_law_every 7=_law_step -/
def bLpair : EV.Ss Fu := (.cons (.set 1 (.call .Llook (.cons (.var 0) .nil))) (.cons (.set 2 (.var 1)) (.cons (.for_ (.nm 3) (.rng 1 (.cons (.bin .add (.cst (.int 1)) (.call .Ldrawn (.cons (.var 0) (.cons (.cst (.int 3)) .nil)))) .nil)) bLpair_1) (.cons (.ife (.and (.cons (.cmp .isn (.call .Lover (.cons (.var 2) (.cons (.sub (.var 1) (.cst (.int 1))) .nil))) (.cst .non)) (.cons (.cmp .gt (.call .Ldrawn (.cons (.var 0) (.cons (.cst (.int 8)) .nil))) (.cst (.int 0))) .nil))) (.cons (.set 5 (.lst (.cons (.tup (.cons (.sub (.var 1) (.cst (.int 0))) (.cons (.sub (.var 1) (.cst (.int 1))) (.cons (.op1 .rvs (.sub (.var 1) (.cst (.int 2)))) .nil)))) (.cons (.var 1) (.cons (.tup (.cons (.sub (.var 1) (.cst (.int 0))) (.cons (.sub (.var 1) (.cst (.int 1))) (.cons (.bi .tuple (.cons (.lc (.nm 7) (.seq (.sub (.var 1) (.cst (.int 2)))) .none (.bin .sub (.cst (.int 0)) (.var 7))) .nil)) .nil)))) .nil))))) (.cons (.set 2 (.sub (.var 5) (.call .Ldrawn (.cons (.var 0) (.cons (.cst (.int 3)) .nil))))) (.cons (.set 6 (.call .Lcells (.cons (.var 2) .nil))) (.cons (.ife (.and (.cons (.cmp .ne (.var 6) (.lst .nil)) (.cons (.not (.ch3 .le .le .lt (.cst (.int 0)) (.op1 .minL (.var 6)) (.op1 .maxL (.var 6)) (.cst (.int 512)))) .nil))) (.cons (.set 2 (.var 1)) .nil) .nil) .nil)))) .nil) (.cons (.ret (.tup (.cons (.var 1) (.cons (.var 2) .nil)))) .nil)))))
def bLplan_1 : EV.Ss Fu := (.cons (.ext 7 (.lc (.nm 6) (.rng 3 (.cons (.bin .sub (.var 4) (.cst (.int 1))) (.cons (.var 11) (.cons (.bin .sub (.cst (.int 0)) (.cst (.int 1))) .nil)))) (.some (.cmp .eq (.sub (.var 9) (.var 6)) (.sub (.var 9) (.var 11)))) (.tup (.cons (.var 6) (.cons (.var 11) .nil))))) .nil)
def bLplan_2 : EV.Ss Fu := (.cons (.ext 7 (.lc (.nm 11) (.rng 3 (.cons (.bin .sub (.var 6) (.cst (.int 1))) (.cons (.bin .sub (.cst (.int 0)) (.cst (.int 1))) (.cons (.bin .sub (.cst (.int 0)) (.cst (.int 1))) .nil)))) (.some (.cmp .eq (.sub (.var 9) (.var 6)) (.sub (.var 10) (.var 11)))) (.tup (.cons (.var 6) (.cons (.var 11) .nil))))) .nil)
def bLplan_3 : EV.Ss Fu := (.cons (.ext 5 (.lc (.nm 11) (.rng 2 (.cons (.bin .add (.var 6) (.cst (.int 1))) (.cons (.var 4) .nil))) (.some (.cmp .eq (.sub (.var 9) (.var 6)) (.sub (.var 10) (.var 11)))) (.tup (.cons (.var 6) (.cons (.var 11) .nil))))) .nil)
/-- Lplan : 0=_law_goal 1=_law_source 2=_law_word 3=_law_lies 4=_law_many 5=_law_forth 6=_law_i 7=_law_back 8=_law_places_here 9=_law_goals 10=_law_whence 11=_law_j -/
def bLplan : EV.Ss Fu := (.cons (.set 3 (.call .Lover (.cons (.var 1) (.cons (.sub (.var 0) (.cst (.int 1))) .nil)))) (.cons (.ife (.cmp .isn (.var 3) (.cst .non)) (.cons (.ret (.cst (.str "BadSides"))) .nil) .nil) (.cons (.par 9 10 (.call .Lcells (.cons (.var 0) .nil)) (.call .Lcells (.cons (.var 3) .nil))) (.cons (.set 4 (.bi .len (.cons (.var 9) .nil))) (.cons (.own 5 (.lst .nil)) (.cons (.for_ (.nm 6) (.rng 1 (.cons (.var 4) .nil)) bLplan_3) (.cons (.ife (.cmp .eq (.var 5) (.lst .nil)) (.cons (.ret (.tup (.cons (.cst (.str "forth")) .nil))) .nil) .nil) (.cons (.own 7 (.lst .nil)) (.cons (.for_ (.nm 6) (.rng 3 (.cons (.bin .sub (.var 4) (.cst (.int 1))) (.cons (.bin .sub (.cst (.int 0)) (.cst (.int 1))) (.cons (.bin .sub (.cst (.int 0)) (.cst (.int 1))) .nil)))) bLplan_2) (.cons (.ife (.and (.cons (.cmp .eq (.var 7) (.lst .nil)) (.cons (.cmp .eq (.var 2) (.cst (.str "set"))) .nil))) (.cons (.for_ (.nm 11) (.rng 3 (.cons (.bin .sub (.var 4) (.cst (.int 1))) (.cons (.bin .sub (.cst (.int 0)) (.cst (.int 1))) (.cons (.bin .sub (.cst (.int 0)) (.cst (.int 1))) .nil)))) bLplan_1) .nil) .nil) (.cons (.ife (.cmp .eq (.var 7) (.lst .nil)) (.cons (.ret (.tup (.cons (.cst (.str "back")) .nil))) .nil) .nil) (.cons (.set 8 (.call .Lplaces (.cons (.sub (.var 0) (.cst (.int 1))) .nil))) (.cons (.ret (.tup (.cons (.cst (.str "copy")) (.cons (.tup (.cons (.sub (.var 8) (.sub (.sub (.var 5) (.cst (.int 0))) (.cst (.int 0)))) (.cons (.sub (.var 8) (.sub (.sub (.var 5) (.cst (.int 0))) (.cst (.int 1)))) .nil))) (.cons (.tup (.cons (.sub (.var 8) (.sub (.sub (.var 7) (.cst (.int 0))) (.cst (.int 0)))) (.cons (.sub (.var 8) (.sub (.sub (.var 7) (.cst (.int 0))) (.cst (.int 1)))) .nil))) .nil))))) .nil)))))))))))))
def bLsmall_1 : EV.Ss Fu := (.cons (.app 2 (.tup (.cons (.bin .add (.cst (.int 20)) (.call .Ldrawn (.cons (.var 0) (.cons (.cst (.int 5)) .nil)))) (.cons (.var 1) (.cons (.bi .tuple (.cons (.lc (.nm 4) (.seq (.var 1)) .none (.bin .sub (.call .Ldrawn (.cons (.var 0) (.cons (.cst (.int 5)) .nil))) (.cst (.int 2)))) .nil)) .nil))))) .nil)
/-- Lsmall : 0=_law_state 1=_law_sides_here 2=_law_found 3=_law_k 4=_law_side -/
def bLsmall : EV.Ss Fu := (.cons (.set 1 (.bi .tuple (.cons (.lc (.nm 3) (.rng 1 (.cons (.bin .add (.cst (.int 1)) (.call .Ldrawn (.cons (.var 0) (.cons (.cst (.int 3)) .nil)))) .nil)) .none (.bin .add (.cst (.int 1)) (.call .Ldrawn (.cons (.var 0) (.cons (.cst (.int 3)) .nil))))) .nil))) (.cons (.own 2 (.lst .nil)) (.cons (.for_ (.nm 3) (.rng 1 (.cons (.cst (.int 2)) .nil)) bLsmall_1) (.cons (.retV 2) .nil))))
/- LAW08 not covered: expr Lambda(args=arguments(posonlyargs=[], args=[], kwonlyargs=[], kw_defaults=[], de -/
/-- LAW08 : 0=_law_script 1=_law_state 2=_law_turn 3=_law_goal 4=_law_source 5=_law_word -/
def bLAW08 : EV.Ss Fu := (.cons .never (.cons .never (.cons .never .nil)))
def bLdone_1 : EV.Ss Fu := (.cons (.set 7 (.ife (.var 3) (.sub (.var 0) (.var 6)) (.sub (.var 4) (.var 6)))) (.cons (.putO 4 (.var 5) (.bin .add (.var 7) (.ife (.cmp .eq (.var 2) (.cst (.str "add"))) (.sub (.var 4) (.var 5)) (.cst (.int 0))))) .nil))
/-- Ldone : 0=_law_room 1=_law_pairs 2=_law_word 3=_law_copied 4=_law_found 5=_law_cell_here 6=_law_whence 7=_law_worth -/
def bLdone : EV.Ss Fu := (.cons (.own 4 (.bi .list (.cons (.var 0) .nil))) (.cons (.for_ (.tp [5, 6]) (.seq (.var 1)) bLdone_1) (.cons (.retV 4) .nil)))
def bLAW09_1 : EV.Ss Fu := (.cons (.set 9 (.call .plan (.cons (.var 3) (.cons (.var 4) (.cons (.var 8) .nil))))) (.cons (.set 10 (.call .Ldone (.cons (.var 7) (.cons (.var 6) (.cons (.var 8) (.cons (.cst (.bl true)) .nil)))))) (.cons (.ife (.and (.cons (.cmp .eq (.var 9) (.tup (.cons (.cst (.str "forth")) .nil))) (.cons (.cmp .ne (.call .Ldone (.cons (.var 7) (.cons (.var 6) (.cons (.var 8) (.cons (.cst (.bl false)) .nil))))) (.var 10)) .nil))) (.cons (.ret (.cst (.bl false))) .nil) .nil) (.cons (.ife (.and (.cons (.cmp .eq (.var 9) (.tup (.cons (.cst (.str "back")) .nil))) (.cons (.cmp .ne (.call .Ldone (.cons (.var 7) (.cons (.op1 .rvs (.var 6)) (.cons (.var 8) (.cons (.cst (.bl false)) .nil))))) (.var 10)) .nil))) (.cons (.ret (.cst (.bl false))) .nil) .nil) (.cons (.ife (.and (.cons (.cmp .isn (.call .meets (.cons (.var 3) (.cons (.var 4) .nil))) (.cst .non)) (.cons (.cmp .ne (.var 9) (.tup (.cons (.cst (.str "forth")) .nil))) .nil))) (.cons (.ret (.cst (.bl false))) .nil) .nil) .nil)))))
def bLAW09_2 : EV.Ss Fu := (.cons (.unp [3, 4] (.call .Lpair (.cons (.var 1) .nil))) (.cons (.ife (.cmp .notn (.call .Lover (.cons (.var 4) (.cons (.sub (.var 3) (.cst (.int 1))) .nil))) (.cst .non)) (.cons (.set 5 (.call .through (.cons (.var 4) (.cons (.tup (.cons (.cst (.str "over")) (.cons (.sub (.var 3) (.cst (.int 1))) .nil))) .nil)))) (.cons (.set 6 (.op2 .lzip (.call .cells (.cons (.var 3) .nil)) (.call .cells (.cons (.var 5) .nil)))) (.cons (.set 7 (.lc (.nm 11) (.rng 1 (.cons (.cst (.int 512)) .nil)) .none (.call .Ldrawn (.cons (.var 1) (.cons (.cst (.int 99)) .nil))))) (.cons (.for_ (.nm 8) (.seq (.lst (.cons (.cst (.str "set")) (.cons (.cst (.str "add")) .nil)))) bLAW09_1) .nil)))) .nil) (.cons (.ife (.cmp .notin (.sub (.call .plan (.cons (.var 3) (.cons (.var 3) (.cons (.cst (.str "add")) .nil)))) (.cst (.int 0))) (.tup (.cons (.cst (.str "forth")) (.cons (.cst (.str "back")) (.cons (.cst (.str "copy")) .nil))))) (.cons (.ret (.cst (.bl false))) .nil) .nil) (.cons (.ife (.and (.cons (.cmp .eq (.op1 .lset (.call .cells (.cons (.var 3) .nil))) (.bi .len (.cons (.call .cells (.cons (.var 3) .nil)) .nil))) (.cons (.cmp .ne (.call .plan (.cons (.var 3) (.cons (.var 3) (.cons (.cst (.str "set")) .nil)))) (.tup (.cons (.cst (.str "forth")) .nil))) .nil))) (.cons (.ret (.cst (.bl false))) .nil) .nil) .nil))))
/-- LAW09 : 0=_law_script 1=_law_state 2=_law_turn 3=_law_goal 4=_law_source 5=_law_lies 6=_law_pairs 7=_law_room 8=_law_word 9=_law_told 10=_law_due 11=_law_k -/
def bLAW09 : EV.Ss Fu := (.cons (.heap 1 (.call .Lstart (.cons (.var 0) .nil))) (.cons (.for_ (.nm 2) (.rng 1 (.cons (.cst (.int 8)) .nil)) bLAW09_2) (.cons (.ret (.cst (.bl true))) .nil)))
/- need_program not covered: method go -/
/-- need_program : 0=program 1=tracer 2=number 3=deed -/
def bneed_program : EV.Ss Fu := (.cons .never (.cons .never .nil))
/- done not covered: method do -/
/-- done : 0=program 1=careful 2=bench 3=deed -/
def bdone : EV.Ss Fu := (.cons .never (.cons .never (.cons .never .nil)))
/- run not covered: expr Attribute(value=Call(func=Name(id='done', ctx=Load()), args=[Name(id='program',  -/
/-- run : 0=program -/
def brun : EV.Ss Fu := (.cons .never (.cons .never .nil))
/- run_careful not covered: expr Attribute(value=Name(id='bench', ctx=Load()), attr='copied', ctx=Load()) -/
/-- run_careful : 0=program 1=bench -/
def brun_careful : EV.Ss Fu := (.cons .never (.cons .never (.cons .never .nil)))
/- held not covered: call dict -/
/-- held : 0=program 1=tracer 2=sizes 3=found 4=deed 5=looked 6=name 7=room -/
def bheld : EV.Ss Fu := (.cons .never (.cons .never (.cons .never (.cons .never (.cons .never (.cons .never .nil))))))
/- row_text not covered: expr Call(func=Attribute(value=Constant(value=','), attr='join', ctx=Load()), args=[L -/
/-- row_text : 0=numbers 1=number -/
def brow_text : EV.Ss Fu := (.cons .never .nil)
/- words_of not covered: call str -/
/-- words_of : 0=deed 1=found 2=part 3=one -/
def bwords_of : EV.Ss Fu := (.cons .never (.cons .never (.cons .never .nil)))
/- written not covered: expr Call(func=Attribute(value=Constant(value='\n'), attr='join', ctx=Load()), args=[ -/
/-- written : 0=program 1=deed -/
def bwritten : EV.Ss Fu := (.cons .never (.cons .never .nil))
/- reason_of not covered: expr Call(func=Attribute(value=Call(func=Name(id='Watch', ctx=Load()), args=[Name(id= -/
/-- reason_of : 0=program 1=number -/
def breason_of : EV.Ss Fu := (.cons .never .nil)
/-- reason : 0=program 1=number -/
def breason : EV.Ss Fu := (.cons (.expr (.call .need_program (.cons (.var 0) .nil))) (.cons (.ife (.or (.cons (.not (.ch2 .le .lt (.cst (.int 0)) (.var 1) (.bi .len (.cons (.var 0) .nil)))) (.cons (.cmp .ne (.sub (.sub (.var 0) (.var 1)) (.cst (.int 0))) (.cst (.str "copy"))) .nil))) (.cons (.never) .nil) .nil) (.cons (.ret (.call .reason_of (.cons (.var 0) (.cons (.var 1) .nil)))) .nil)))
/- as_look not covered: method go -/
/-- as_look : 0=program 1=number 2=tracer 3=found 4=word 5=name 6=other 7=at 8=deed -/
def bas_look : EV.Ss Fu := (.cons .never (.cons .never (.cons .never (.cons .never (.cons .never .nil)))))
def bleaned_1 : EV.Ss Fu := (.cons (.ife (.and (.cons (.cmp .eq (.sub (.sub (.var 1) (.var 2)) (.cst (.int 0))) (.cst (.str "copy"))) (.cons (.cmp .isn (.call .reason_of (.cons (.var 1) (.cons (.var 2) .nil))) (.cst .non)) .nil))) (.cons (.set 3 (.call .as_look (.cons (.var 1) (.cons (.var 2) .nil)))) (.cons (.set 1 (.ife (.cmp .isn (.var 3) (.cst .non)) (.var 1) (.var 3))) .nil)) .nil) .nil)
/-- leaned : 0=program 1=found 2=number 3=other -/
def bleaned : EV.Ss Fu := (.cons (.expr (.call .need_program (.cons (.var 0) .nil))) (.cons (.set 1 (.bi .list (.cons (.var 0) .nil))) (.cons (.for_ (.nm 2) (.rng 1 (.cons (.bi .len (.cons (.var 0) .nil)) .nil)) bleaned_1) (.cons (.ret (.var 1)) .nil))))
/- Lknown not covered: method pop -/
/-- Lknown : 0=_law_known_here 1=_law_rooms 2=_law_deed_here 3=_law_sides_here 4=_law_many 5=_law_steps 6=_law_behind 7=_law_side 8=_law_room 9=_law_look_here -/
def bLknown : EV.Ss Fu := (.cons .never (.cons .never (.cons .never (.cons .never (.cons .never .nil)))))
/-- Ldeed : 0=_law_state 1=_law_known_here 2=_law_names 3=_law_fresh 4=_law_way_here 5=_law_one 6=_law_look_here 7=_law_places_here 8=_law_some 9=_law_told 10=_law_number 11=_law_name -/
def bLdeed : EV.Ss Fu := (.cons (.set 2 (.op1 .sorted (.var 1))) (.cons (.set 3 (.sub (.cst (.str "abcdefgh")) (.call .Ldrawn (.cons (.var 0) (.cons (.sub (.lst (.cons (.cst (.int 3)) (.cons (.cst (.int 5)) (.cons (.cst (.int 8)) .nil)))) (.call .Ldrawn (.cons (.var 0) (.cons (.cst (.int 3)) .nil)))) .nil))))) (.cons (.set 4 (.call .Ldrawn (.cons (.var 0) (.cons (.cst (.int 20)) .nil)))) (.cons (.ife (.or (.cons (.cmp .eq (.var 2) (.lst .nil)) (.cons (.cmp .lt (.var 4) (.cst (.int 2))) .nil))) (.cons (.ret (.tup (.cons (.cst (.str "new")) (.cons (.var 3) (.cons (.call .Lsides (.cons (.var 0) (.cons (.cst (.int 4)) .nil))) .nil))))) .nil) .nil) (.cons (.set 5 (.sub (.var 2) (.call .Ldrawn (.cons (.var 0) (.cons (.bi .len (.cons (.var 2) .nil)) .nil))))) (.cons (.set 6 (.sub (.op2 .dget (.var 1) (.var 5)) (.cst (.int 1)))) (.cons (.ife (.cmp .lt (.var 4) (.cst (.int 7))) (.cons (.set 9 (.call .Lway (.cons (.var 0) (.cons (.var 6) .nil)))) (.cons (.ret (.tup (.cons (.cst (.str "look")) (.cons (.var 3) (.cons (.var 5) (.cons (.ife (.cmp .notn (.call .Lthrough (.cons (.var 6) (.cons (.var 9) .nil))) (.cst .non)) (.var 9) (.tup (.cons (.cst (.str "over")) (.cons (.sub (.var 6) (.cst (.int 1))) .nil)))) .nil)))))) .nil)) .nil) (.cons (.ife (.cmp .lt (.var 4) (.cst (.int 9))) (.cons (.ret (.ife (.cmp .le (.bi .len (.cons (.call .Lplaces (.cons (.sub (.var 6) (.cst (.int 1))) .nil)) .nil)) (.cst (.int 200))) (.tup (.cons (.cst (.str "copy")) (.cons (.var 3) (.cons (.var 5) .nil)))) (.tup (.cons (.cst (.str "total")) (.cons (.var 5) .nil))))) .nil) .nil) (.cons (.set 7 (.call .Lplaces (.cons (.sub (.var 6) (.cst (.int 1))) .nil))) (.cons (.ife (.or (.cons (.cmp .eq (.var 4) (.cst (.int 9))) (.cons (.and (.cons (.cmp .eq (.var 4) (.cst (.int 10))) (.cons (.cmp .eq (.var 7) (.lst .nil)) .nil))) .nil))) (.cons (.ret (.tup (.cons (.cst (.str "fill")) (.cons (.var 5) (.cons (.call .Ldrawn (.cons (.var 0) (.cons (.sub (.lst (.cons (.cst (.int 9)) (.cons (.cst (.int 10007)) .nil))) (.call .Ldrawn (.cons (.var 0) (.cons (.cst (.int 2)) .nil)))) .nil))) .nil))))) .nil) .nil) (.cons (.ife (.and (.cons (.cmp .lt (.var 4) (.cst (.int 13))) (.cons (.cmp .ne (.var 7) (.lst .nil)) .nil))) (.cons (.set 10 (.call .Ldrawn (.cons (.var 0) (.cons (.sub (.lst (.cons (.cst (.int 99)) (.cons (.cst (.int 10007)) .nil))) (.call .Ldrawn (.cons (.var 0) (.cons (.cst (.int 2)) .nil)))) .nil)))) (.cons (.ret (.tup (.cons (.cst (.str "put")) (.cons (.var 5) (.cons (.sub (.var 7) (.call .Ldrawn (.cons (.var 0) (.cons (.bi .len (.cons (.var 7) .nil)) .nil)))) (.cons (.var 10) .nil)))))) .nil)) .nil) (.cons (.set 8 (.lc (.nm 11) (.seq (.var 2)) (.some (.cmp .notn (.call .Lover (.cons (.sub (.op2 .dget (.var 1) (.var 11)) (.cst (.int 1))) (.cons (.sub (.var 6) (.cst (.int 1))) .nil))) (.cst .non))) (.var 11))) (.cons (.ife (.cmp .lt (.var 4) (.cst (.int 16))) (.cons (.ret (.tup (.cons (.sub (.lst (.cons (.cst (.str "set")) (.cons (.cst (.str "add")) .nil))) (.call .Ldrawn (.cons (.var 0) (.cons (.cst (.int 2)) .nil)))) (.cons (.var 5) (.cons (.sub (.var 8) (.call .Ldrawn (.cons (.var 0) (.cons (.bi .len (.cons (.var 8) .nil)) .nil)))) .nil))))) .nil) .nil) (.cons (.ife (.cmp .eq (.var 4) (.cst (.int 16))) (.cons (.ret (.tup (.cons (.cst (.str "drop")) (.cons (.var 5) .nil)))) .nil) .nil) (.cons (.ret (.tup (.cons (.sub (.lst (.cons (.cst (.str "say")) (.cons (.cst (.str "total")) (.cons (.cst (.str "say")) .nil)))) (.call .Ldrawn (.cons (.var 0) (.cons (.cst (.int 3)) .nil)))) (.cons (.var 5) .nil)))) .nil)))))))))))))))
def bLprogram_1 : EV.Ss Fu := (.cons (.app 4 (.call .Ldeed (.cons (.var 0) (.cons (.var 2) .nil)))) (.cons (.set 2 (.call .Lknown (.cons (.var 2) (.cons (.var 3) (.cons (.sub (.var 4) (.op1 .neg (.cst (.int 1)))) .nil))))) .nil))
/-- Lprogram : 0=_law_state 1=_law_most 2=_law_known_here 3=_law_rooms 4=_law_found 5=_law_k -/
def bLprogram : EV.Ss Fu := (.cons (.set 2 (.dnew false)) (.cons (.set 3 (.lst .nil)) (.cons (.own 4 (.lst .nil)) (.cons (.for_ (.nm 5) (.rng 1 (.cons (.call .Ldrawn (.cons (.var 0) (.cons (.bin .add (.var 1) (.cst (.int 1))) .nil))) .nil)) bLprogram_1) (.cons (.retV 4) .nil)))))
def bLbad_k10_1 : EV.Ss Fu := (.cons (.ife (.cmp .isn (.call .Lover (.cons (.sub (.op2 .dget (.var 1) (.var 8)) (.cst (.int 1))) (.cons (.var 7) .nil))) (.cst .non)) (.cons (.own 5 (.bin .add (.var 5) (.bin .mul (.lst (.cons (.tup (.cons (.cst (.str "set")) (.cons (.var 6) (.cons (.var 8) .nil)))) (.cons (.tup (.cons (.cst (.str "add")) (.cons (.var 6) (.cons (.var 8) .nil)))) .nil))) (.cst (.int 2))))) .nil) .nil) .nil)
/-- Lbad_k10 : 0=_law_state 1=_law_known_here 2=_law_far_here 3=_law_names 4=_law_free 5=_law_some 6=_law_name 7=_law_sides_here 8=_law_other 9=_law_side -/
def bLbad_k10 : EV.Ss Fu := (.cons (.set 2 (.call .Lfar (.cons (.var 0) (.cons (.cst (.int 0)) (.cons (.cst (.int 10006)) .nil))))) (.cons (.set 3 (.op1 .sorted (.var 1))) (.cons (.set 4 (.bin .add (.lc (.nm 6) (.seq (.cst (.str "abcdefgh"))) (.some (.cmp .notin (.var 6) (.var 3))) (.var 6)) (.lst (.cons (.cst (.str "i")) .nil)))) (.cons (.own 5 (.lst (.cons (.tup .nil) (.cons (.tup (.cons (.cst (.str "new")) (.cons (.cst (.str "a")) .nil))) (.cons (.tup (.cons (.cst (.str "new")) (.cons (.cst (.str "i")) (.cons (.tup .nil) .nil)))) (.cons (.tup (.cons (.cst (.str "new")) (.cons (.cst (.str "a")) (.cons (.tup (.cons (.cst (.int 9)) .nil)) .nil)))) (.cons (.tup (.cons (.cst (.str "new")) (.cons (.cst (.str "a")) (.cons (.tup (.cons (.cst (.int 1)) (.cons (.cst (.int 1)) (.cons (.cst (.int 1)) (.cons (.cst (.int 1)) .nil))))) .nil)))) (.cons (.tup (.cons (.cst (.str "new")) (.cons (.cst (.str "A")) (.cons (.tup (.cons (.cst (.int 1)) .nil)) .nil)))) .nil)))))))) (.cons (.own 5 (.bin .add (.var 5) (.lst (.cons (.tup (.cons (.cst (.str "say")) (.cons (.sub (.var 4) (.cst (.int 0))) .nil))) (.cons (.tup (.cons (.cst (.str "fill")) (.cons (.sub (.var 4) (.cst (.int 0))) (.cons (.cst (.int 1)) .nil)))) (.cons (.tup (.cons (.cst (.str "copy")) (.cons (.cst (.str "a")) (.cons (.sub (.var 4) (.cst (.int 0))) .nil)))) .nil)))))) (.cons (.app 5 (.tup (.cons (.cst (.str "look")) (.cons (.cst (.str "a")) (.cons (.sub (.var 4) (.cst (.int 0))) (.cons (.tup (.cons (.cst (.str "over")) (.cons (.tup .nil) .nil))) .nil)))))) (.cons (.own 5 (.bin .add (.var 5) (.lst (.cons (.tup (.cons (.cst (.str "set")) (.cons (.sub (.var 4) (.cst (.int 0))) (.cons (.sub (.var 4) (.cst (.int 0))) .nil)))) (.cons (.tup (.cons (.cst (.str "drop")) (.cons (.sub (.var 4) (.cst (.int 0))) .nil))) (.cons (.tup (.cons (.cst (.str "Say")) (.cons (.cst (.str "a")) .nil))) (.cons (.tup (.cons (.cst (.str "total")) .nil)) (.cons (.tup (.cons (.cst (.str "new")) (.cons (.cst (.str "a")) (.cons (.cst (.int 3)) .nil)))) .nil)))))))) (.cons (.app 5 (.tup (.cons (.cst (.str "")) (.cons (.cst (.str "a")) .nil)))) (.cons (.ife (.cmp .ne (.var 3) (.lst .nil)) (.cons (.set 6 (.sub (.var 3) (.call .Ldrawn (.cons (.var 0) (.cons (.bi .len (.cons (.var 3) .nil)) .nil))))) (.cons (.set 7 (.sub (.sub (.op2 .dget (.var 1) (.var 6)) (.cst (.int 1))) (.cst (.int 1)))) (.cons (.own 5 (.bin .add (.var 5) (.lst (.cons (.tup (.cons (.cst (.str "fill")) (.cons (.var 6) (.cons (.var 2) .nil)))) (.cons (.tup (.cons (.cst (.str "fill")) (.cons (.var 6) .nil))) (.cons (.tup (.cons (.cst (.str "put")) (.cons (.var 6) (.cons (.bin .add (.var 7) (.tup (.cons (.cst (.int 0)) .nil))) (.cons (.cst (.int 1)) .nil))))) .nil)))))) (.cons (.own 5 (.bin .add (.var 5) (.bin .mul (.lst (.cons (.tup (.cons (.cst (.str "put")) (.cons (.var 6) (.cons (.var 7) (.cons (.cst (.int 1)) .nil))))) .nil)) (.op1 .intb (.cmp .ne (.var 7) (.tup .nil)))))) (.cons (.own 5 (.bin .add (.var 5) (.lst (.cons (.tup (.cons (.cst (.str "look")) (.cons (.cst (.str "a")) (.cons (.var 6) (.cons (.tup (.cons (.cst (.str "cut")) (.cons (.cst (.int 0)) (.cons (.cst (.int 0)) (.cons (.cst (.int 0)) (.cons (.cst (.int 0)) .nil)))))) .nil))))) (.cons (.tup (.cons (.cst (.str "look")) (.cons (.cst (.str "a")) (.cons (.var 6) (.cons (.tup .nil) .nil))))) .nil))))) (.cons (.app 5 (.tup (.cons (.cst (.str "look")) (.cons (.cst (.str "a")) (.cons (.var 6) (.cons (.tup (.cons (.cst (.str "over")) (.cons (.cst (.int 1)) .nil))) .nil)))))) (.cons (.own 5 (.bin .add (.var 5) (.lst (.cons (.tup (.cons (.cst (.str "put")) (.cons (.var 6) (.cons (.bin .add (.bi .tuple (.cons (.lc (.nm 9) (.seq (.var 7)) .none (.bin .sub (.cst (.int 0)) (.cst (.int 1)))) .nil)) (.bin .mul (.tup (.cons (.cst (.int 0)) .nil)) (.op1 .intb (.cmp .eq (.var 7) (.tup .nil))))) (.cons (.cst (.int 1)) .nil))))) (.cons (.tup (.cons (.cst (.str "set")) (.cons (.var 6) (.cons (.cst (.int 5)) .nil)))) .nil))))) (.cons (.own 5 (.bin .add (.var 5) (.lst (.cons (.tup (.cons (.cst (.str "add")) (.cons (.var 6) (.cons (.sub (.var 4) (.cst (.int 0))) .nil)))) (.cons (.tup (.cons (.cst (.str "look")) (.cons (.cst (.str "a")) (.cons (.var 6) (.cons (.tup (.cons (.cst (.str "shaped")) (.cons (.tup (.cons (.cst (.int 9)) .nil)) .nil))) .nil))))) (.cons (.tup (.cons (.cst (.str "fill")) (.cons (.var 6) (.cons (.cst (.bl true)) .nil)))) .nil)))))) (.cons (.app 5 (.tup (.cons (.cst (.str "say")) (.cons (.var 6) (.cons (.cst (.int 1)) .nil))))) (.cons (.for_ (.nm 8) (.seq (.var 3)) bLbad_k10_1) .nil)))))))))) .nil) (.cons (.ret (.sub (.var 5) (.call .Ldrawn (.cons (.var 0) (.cons (.bi .len (.cons (.var 5) .nil)) .nil))))) .nil))))))))))
/- Lworks_k10 not covered: expr Lambda(args=arguments(posonlyargs=[], args=[], kwonlyargs=[], kw_defaults=[], de -/
/-- Lworks_k10 : 0=_law_program_here 1=_law_works_here -/
def bLworks_k10 : EV.Ss Fu := (.cons .never (.cons .never (.cons .never (.cons .never (.cons .never (.cons .never (.cons .never .nil)))))))
/- LAW10 not covered: expr Lambda(args=arguments(posonlyargs=[], args=[], kwonlyargs=[], kw_defaults=[], de -/
/-- LAW10 : 0=_law_script 1=_law_state 2=_law_turn 3=_law_program_here 4=_law_at 5=_law_known_here 6=_law_rooms 7=_law_deed_here 8=_law_bad_here 9=_law_long 10=_law_work -/
def bLAW10 : EV.Ss Fu := (.cons .never (.cons .never (.cons .never .nil)))
/-- Ldeed_k11 : 0=_law_state 1=_law_known_here 2=_law_names 3=_law_fresh 4=_law_way_here 5=_law_one 6=_law_look_here 7=_law_places_here 8=_law_some 9=_law_told 10=_law_number 11=_law_name -/
def bLdeed_k11 : EV.Ss Fu := (.cons (.set 2 (.op1 .sorted (.var 1))) (.cons (.set 3 (.sub (.cst (.str "abcdefgh")) (.call .Ldrawn (.cons (.var 0) (.cons (.sub (.lst (.cons (.cst (.int 3)) (.cons (.cst (.int 5)) (.cons (.cst (.int 8)) .nil)))) (.call .Ldrawn (.cons (.var 0) (.cons (.cst (.int 3)) .nil)))) .nil))))) (.cons (.set 4 (.call .Ldrawn (.cons (.var 0) (.cons (.cst (.int 20)) .nil)))) (.cons (.ife (.or (.cons (.cmp .eq (.var 2) (.lst .nil)) (.cons (.cmp .lt (.var 4) (.cst (.int 2))) .nil))) (.cons (.ret (.tup (.cons (.cst (.str "new")) (.cons (.var 3) (.cons (.call .Lsides (.cons (.var 0) (.cons (.sub (.lst (.cons (.cst (.int 4)) (.cons (.cst (.int 4)) (.cons (.cst (.int 4)) (.cons (.cst (.int 4)) (.cons (.cst (.int 4)) (.cons (.cst (.int 8)) .nil))))))) (.call .Ldrawn (.cons (.var 0) (.cons (.cst (.int 6)) .nil)))) .nil))) .nil))))) .nil) .nil) (.cons (.set 5 (.sub (.var 2) (.call .Ldrawn (.cons (.var 0) (.cons (.bi .len (.cons (.var 2) .nil)) .nil))))) (.cons (.set 6 (.sub (.op2 .dget (.var 1) (.var 5)) (.cst (.int 1)))) (.cons (.ife (.cmp .lt (.var 4) (.cst (.int 7))) (.cons (.set 9 (.call .Lway (.cons (.var 0) (.cons (.var 6) .nil)))) (.cons (.ret (.tup (.cons (.cst (.str "look")) (.cons (.var 3) (.cons (.var 5) (.cons (.ife (.cmp .notn (.call .Lthrough (.cons (.var 6) (.cons (.var 9) .nil))) (.cst .non)) (.var 9) (.tup (.cons (.cst (.str "over")) (.cons (.sub (.var 6) (.cst (.int 1))) .nil)))) .nil)))))) .nil)) .nil) (.cons (.ife (.cmp .lt (.var 4) (.cst (.int 9))) (.cons (.ret (.ife (.cmp .le (.bi .len (.cons (.call .Lplaces (.cons (.sub (.var 6) (.cst (.int 1))) .nil)) .nil)) (.cst (.int 200))) (.tup (.cons (.cst (.str "copy")) (.cons (.var 3) (.cons (.var 5) .nil)))) (.tup (.cons (.cst (.str "total")) (.cons (.var 5) .nil))))) .nil) .nil) (.cons (.set 7 (.call .Lplaces (.cons (.sub (.var 6) (.cst (.int 1))) .nil))) (.cons (.ife (.or (.cons (.cmp .eq (.var 4) (.cst (.int 9))) (.cons (.and (.cons (.cmp .eq (.var 4) (.cst (.int 10))) (.cons (.cmp .eq (.var 7) (.lst .nil)) .nil))) .nil))) (.cons (.ret (.tup (.cons (.cst (.str "fill")) (.cons (.var 5) (.cons (.call .Ldrawn (.cons (.var 0) (.cons (.sub (.lst (.cons (.cst (.int 9)) (.cons (.cst (.int 10007)) .nil))) (.call .Ldrawn (.cons (.var 0) (.cons (.cst (.int 2)) .nil)))) .nil))) .nil))))) .nil) .nil) (.cons (.ife (.and (.cons (.cmp .lt (.var 4) (.cst (.int 13))) (.cons (.cmp .ne (.var 7) (.lst .nil)) .nil))) (.cons (.set 10 (.call .Ldrawn (.cons (.var 0) (.cons (.sub (.lst (.cons (.cst (.int 99)) (.cons (.cst (.int 10007)) .nil))) (.call .Ldrawn (.cons (.var 0) (.cons (.cst (.int 2)) .nil)))) .nil)))) (.cons (.ret (.tup (.cons (.cst (.str "put")) (.cons (.var 5) (.cons (.sub (.var 7) (.call .Ldrawn (.cons (.var 0) (.cons (.bi .len (.cons (.var 7) .nil)) .nil)))) (.cons (.var 10) .nil)))))) .nil)) .nil) (.cons (.set 8 (.lc (.nm 11) (.seq (.var 2)) (.some (.cmp .notn (.call .Lover (.cons (.sub (.op2 .dget (.var 1) (.var 11)) (.cst (.int 1))) (.cons (.sub (.var 6) (.cst (.int 1))) .nil))) (.cst .non))) (.var 11))) (.cons (.ife (.cmp .lt (.var 4) (.cst (.int 16))) (.cons (.ret (.tup (.cons (.sub (.lst (.cons (.cst (.str "set")) (.cons (.cst (.str "add")) .nil))) (.call .Ldrawn (.cons (.var 0) (.cons (.cst (.int 2)) .nil)))) (.cons (.var 5) (.cons (.sub (.var 8) (.call .Ldrawn (.cons (.var 0) (.cons (.bi .len (.cons (.var 8) .nil)) .nil)))) .nil))))) .nil) .nil) (.cons (.ife (.cmp .eq (.var 4) (.cst (.int 16))) (.cons (.ret (.tup (.cons (.cst (.str "drop")) (.cons (.var 5) .nil)))) .nil) .nil) (.cons (.ret (.tup (.cons (.sub (.lst (.cons (.cst (.str "say")) (.cons (.cst (.str "total")) (.cons (.cst (.str "say")) .nil)))) (.call .Ldrawn (.cons (.var 0) (.cons (.cst (.int 3)) .nil)))) (.cons (.var 5) .nil)))) .nil)))))))))))))))
def bLprogram_k11_1 : EV.Ss Fu := (.cons (.app 4 (.call .Ldeed_k11 (.cons (.var 0) (.cons (.var 2) .nil)))) (.cons (.set 2 (.call .Lknown (.cons (.var 2) (.cons (.var 3) (.cons (.sub (.var 4) (.op1 .neg (.cst (.int 1)))) .nil))))) .nil))
/-- Lprogram_k11 : 0=_law_state 1=_law_most 2=_law_known_here 3=_law_rooms 4=_law_found 5=_law_k -/
def bLprogram_k11 : EV.Ss Fu := (.cons (.set 2 (.dnew false)) (.cons (.set 3 (.lst .nil)) (.cons (.own 4 (.lst .nil)) (.cons (.for_ (.nm 5) (.rng 1 (.cons (.call .Ldrawn (.cons (.var 0) (.cons (.bin .add (.var 1) (.cst (.int 1))) .nil))) .nil)) bLprogram_k11_1) (.cons (.retV 4) .nil)))))
def bLrun_1 : EV.Ss Fu := (.cons (.set 7 (.var 1)) (.cons (.set 1 (.call .Lknown (.cons (.var 1) (.cons (.var 2) (.cons (.var 6) .nil))))) (.cons (.ife (.cmp .eq (.sub (.var 6) (.cst (.int 0))) (.cst (.str "new"))) (.cons (.appL (.var 3) (.bin .mul (.lst (.cons (.cst (.int 0)) .nil)) (.sub (.var 2) (.op1 .neg (.cst (.int 1)))))) .nil) .nil) (.cons (.ife (.cmp .eq (.sub (.var 6) (.cst (.int 0))) (.cst (.str "copy"))) (.cons (.unp [10, 11] (.sub (.var 7) (.sub (.var 6) (.cst (.int 2))))) (.cons (.appL (.var 3) (.lc (.nm 12) (.seq (.call .Lcells (.cons (.var 11) .nil))) .none (.sub (.sub (.var 3) (.var 10)) (.var 12)))) (.cons (.set 5 (.bin .add (.var 5) (.sub (.var 2) (.op1 .neg (.cst (.int 1)))))) .nil))) .nil) (.cons (.ife (.cmp .inn (.sub (.var 6) (.cst (.int 0))) (.tup (.cons (.cst (.str "fill")) (.cons (.cst (.str "put")) (.cons (.cst (.str "set")) (.cons (.cst (.str "add")) (.cons (.cst (.str "total")) (.cons (.cst (.str "say")) .nil)))))))) (.cons (.unp [10, 11] (.op2 .dget (.var 1) (.sub (.var 6) (.cst (.int 1))))) (.cons (.set 8 (.call .Lcells (.cons (.var 11) .nil))) (.cons (.set 5 (.bin .add (.var 5) (.call .Ldoes (.cons (.var 3) (.cons (.var 1) (.cons (.var 6) (.cons (.var 10) (.cons (.var 11) (.cons (.var 8) .nil))))))))) (.cons (.set 9 (.lc (.nm 12) (.seq (.var 8)) .none (.sub (.sub (.var 3) (.var 10)) (.var 12)))) (.cons (.ife (.cmp .eq (.sub (.var 6) (.cst (.int 0))) (.cst (.str "total"))) (.cons (.app 4 (.bin .mod (.bi .sum (.cons (.var 9) .nil)) (.cst (.int 10007)))) .nil) .nil) (.cons (.ife (.cmp .eq (.sub (.var 6) (.cst (.int 0))) (.cst (.str "say"))) (.cons (.app 4 (.tup (.cons (.sub (.var 11) (.cst (.int 1))) (.cons (.bi .tuple (.cons (.var 9) .nil)) .nil)))) .nil) .nil) .nil)))))) .nil) .nil)))))
/-- Lrun : 0=_law_program_here 1=_law_known_here 2=_law_rooms 3=_law_rooms_hold 4=_law_told 5=_law_copied 6=_law_deed_here 7=_law_before 8=_law_every 9=_law_some 10=_law_room 11=_law_look_here 12=_law_cell_here -/
def bLrun : EV.Ss Fu := (.cons (.set 1 (.dnew false)) (.cons (.set 2 (.lst .nil)) (.cons (.heap 3 (.lst .nil)) (.cons (.own 4 (.lst .nil)) (.cons (.set 5 (.cst (.int 0))) (.cons (.for_ (.nm 6) (.seq (.var 0)) bLrun_1) (.cons (.frz 4) (.cons (.ret (.tup (.cons (.var 4) (.cons (.var 5) .nil)))) .nil))))))))
def bLdoes_1 : EV.Ss Fu := (.cons (.set 12 (.ife (.cmp .eq (.sub (.var 2) (.cst (.int 0))) (.cst (.str "add"))) (.sub (.sub (.var 0) (.var 3)) (.sub (.var 5) (.var 8))) (.cst (.int 0)))) (.cons (.putL (.sub (.var 0) (.var 3)) (.sub (.var 5) (.var 8)) (.bin .mod (.bin .add (.sub (.var 7) (.var 8)) (.var 12)) (.cst (.int 10007)))) .nil))
def bLdoes_2 : EV.Ss Fu := (.cons (.putL (.sub (.var 0) (.var 3)) (.var 9) (.sub (.var 2) (.cst (.int 2)))) .nil)
/-- Ldoes : 0=_law_rooms_hold 1=_law_known_here 2=_law_deed_here 3=_law_room 4=_law_look_here 5=_law_every 6=_law_whence 7=_law_some 8=_law_k 9=_law_cell_here 10=_law_other 11=_law_source 12=_law_more -/
def bLdoes : EV.Ss Fu := (.cons (.ife (.cmp .eq (.sub (.var 2) (.cst (.int 0))) (.cst (.str "fill"))) (.cons (.for_ (.nm 9) (.seq (.var 5)) bLdoes_2) .nil) .nil) (.cons (.ife (.cmp .eq (.sub (.var 2) (.cst (.int 0))) (.cst (.str "put"))) (.cons (.putL (.sub (.var 0) (.var 3)) (.call .Lcell (.cons (.var 4) (.cons (.sub (.var 2) (.cst (.int 2))) .nil))) (.sub (.var 2) (.cst (.int 3)))) .nil) .nil) (.cons (.ife (.cmp .notin (.sub (.var 2) (.cst (.int 0))) (.tup (.cons (.cst (.str "set")) (.cons (.cst (.str "add")) .nil)))) (.cons (.ret (.cst (.int 0))) .nil) .nil) (.cons (.unp [10, 11] (.op2 .dget (.var 1) (.sub (.var 2) (.cst (.int 2))))) (.cons (.set 6 (.call .Lcells (.cons (.call .Lover (.cons (.var 11) (.cons (.sub (.var 4) (.cst (.int 1))) .nil))) .nil))) (.cons (.set 7 (.lc (.nm 9) (.seq (.var 6)) .none (.sub (.sub (.var 0) (.var 10)) (.var 9)))) (.cons (.for_ (.nm 8) (.rng 1 (.cons (.bi .len (.cons (.var 5) .nil)) .nil)) bLdoes_1) (.cons (.ret (.bin .mul (.bi .len (.cons (.var 5) .nil)) (.op1 .intb (.and (.cons (.cmp .eq (.var 3) (.var 10)) (.cons (.call .Lhinders (.cons (.var 5) (.cons (.var 6) (.cons (.cmp .eq (.sub (.var 2) (.cst (.int 0))) (.cst (.str "set"))) .nil)))) .nil)))))) .nil))))))))
def bLhinders_1 : EV.Ss Fu := (.cons (.set 4 (.or (.cons (.var 4) (.cons (.cmp .inn (.sub (.var 0) (.var 3)) (.slc (.var 1) (.some (.bin .add (.var 3) (.cst (.int 1)))) .none)) .nil)))) (.cons (.set 5 (.or (.cons (.var 5) (.cons (.cmp .inn (.sub (.var 0) (.var 3)) (.slc (.var 1) .none (.some (.var 3)))) .nil)))) .nil))
/-- Lhinders : 0=_law_goals 1=_law_whence 2=_law_alone 3=_law_i 4=_law_forth 5=_law_back -/
def bLhinders : EV.Ss Fu := (.cons (.par 4 5 (.cst (.bl false)) (.and (.cons (.var 2) (.cons (.cmp .lt (.op1 .lset (.var 0)) (.bi .len (.cons (.var 0) .nil))) .nil)))) (.cons (.for_ (.nm 3) (.rng 1 (.cons (.bi .len (.cons (.var 0) .nil)) .nil)) bLhinders_1) (.cons (.ret (.and (.cons (.var 4) (.cons (.var 5) .nil)))) .nil)))
def bLAW11_1 : EV.Ss Fu := (.cons (.set 7 (.lst (.cons (.call .run (.cons (.var 5) .nil)) (.cons (.call .run_careful (.cons (.var 5) .nil)) .nil)))) (.cons (.ife (.or (.cons (.not (.call .Lsame (.cons (.var 7) (.cons (.lst (.cons (.sub (.var 4) (.cst (.int 0))) (.cons (.var 4) .nil))) .nil)))) (.cons (.cmp .ne (.var 5) (.var 3)) .nil))) (.cons (.ret (.cst (.bl false))) .nil) .nil) (.cons (.appL (.sub (.var 7) (.cst (.int 0))) (.cst (.int 0))) (.cons (.appL (.sub (.sub (.var 7) (.cst (.int 1))) (.cst (.int 0))) (.cst (.int 0))) .nil))))
def bLAW11_2 : EV.Ss Fu := (.cons (.set 3 (.call .Lprogram_k11 (.cons (.var 1) (.cons (.cst (.int 40)) .nil)))) (.cons (.set 4 (.call .Lrun (.cons (.var 3) .nil))) (.cons (.set 5 (.bi .list (.cons (.var 3) .nil))) (.cons (.for_ (.nm 6) (.rng 1 (.cons (.cst (.int 2)) .nil)) bLAW11_1) .nil))))
/-- LAW11 : 0=_law_script 1=_law_state 2=_law_turn 3=_law_program_here 4=_law_due 5=_law_handed 6=_law_again 7=_law_found -/
def bLAW11 : EV.Ss Fu := (.cons (.heap 1 (.call .Lstart (.cons (.var 0) .nil))) (.cons (.for_ (.nm 2) (.rng 1 (.cons (.cst (.int 4)) .nil)) bLAW11_2) (.cons (.ret (.cst (.bl true))) .nil)))
def bLways_1 : EV.Ss Fu := (.cons (.set 4 (.call .Lway (.cons (.var 0) (.cons (.var 1) .nil)))) (.cons (.set 5 (.call .Lthrough (.cons (.var 1) (.cons (.var 4) .nil)))) (.cons (.ife (.cmp .notn (.var 5) (.cst .non)) (.cons (.app 2 (.var 4)) (.cons (.set 1 (.var 5)) .nil)) .nil) .nil)))
/-- Lways : 0=_law_state 1=_law_look_here 2=_law_found 3=_law_turn 4=_law_way_here 5=_law_told -/
def bLways : EV.Ss Fu := (.cons (.own 2 (.lst .nil)) (.cons (.for_ (.nm 3) (.rng 1 (.cons (.call .Ldrawn (.cons (.var 0) (.cons (.cst (.int 4)) .nil))) .nil)) bLways_1) (.cons (.frz 2) (.cons (.ret (.tup (.cons (.var 2) (.cons (.var 1) .nil)))) .nil))))
def bLAW12_1 : EV.Ss Fu := (.cons (.set 3 (.call .Lsides (.cons (.var 1) (.cons (.sub (.lst (.cons (.cst (.int 5)) (.cons (.cst (.int 5)) (.cons (.cst (.int 5)) (.cons (.cst (.int 8)) .nil))))) (.call .Ldrawn (.cons (.var 1) (.cons (.cst (.int 4)) .nil)))) .nil)))) (.cons (.unp [10, 11] (.call .Lways (.cons (.var 1) (.cons (.call .whole (.cons (.var 3) .nil)) .nil)))) (.cons (.unp [12, 13] (.call .Lways (.cons (.var 1) (.cons (.call .whole (.cons (.var 3) .nil)) .nil)))) (.cons (.set 4 (.lst (.cons (.tup (.cons (.cst (.str "new")) (.cons (.cst (.str "a")) (.cons (.var 3) .nil)))) (.cons (.tup (.cons (.cst (.str "look")) (.cons (.cst (.str "b")) (.cons (.cst (.str "a")) (.cons (.tup (.cons (.cst (.str "over")) (.cons (.var 3) .nil))) .nil))))) (.cons (.tup (.cons (.cst (.str "look")) (.cons (.cst (.str "c")) (.cons (.cst (.str "a")) (.cons (.tup (.cons (.cst (.str "over")) (.cons (.var 3) .nil))) .nil))))) .nil))))) (.cons (.set 4 (.bin .add (.bin .add (.var 4) (.lc (.nm 15) (.seq (.var 10)) .none (.tup (.cons (.cst (.str "look")) (.cons (.cst (.str "b")) (.cons (.cst (.str "b")) (.cons (.var 15) .nil))))))) (.lc (.nm 15) (.seq (.var 12)) .none (.tup (.cons (.cst (.str "look")) (.cons (.cst (.str "c")) (.cons (.cst (.str "c")) (.cons (.var 15) .nil)))))))) (.cons (.set 5 (.call .Lplaces (.cons (.sub (.var 11) (.cst (.int 1))) .nil))) (.cons (.set 6 (.tup (.cons (.cst (.str "fill")) (.cons (.cst (.str "b")) (.cons (.cst (.int 7)) .nil))))) (.cons (.set 7 (.call .Lcells (.cons (.var 11) .nil))) (.cons (.ife (.and (.cons (.cmp .ne (.var 5) (.lst .nil)) (.cons (.cmp .eq (.call .Ldrawn (.cons (.var 1) (.cons (.cst (.int 2)) .nil))) (.cst (.int 1))) .nil))) (.cons (.set 14 (.sub (.var 5) (.call .Ldrawn (.cons (.var 1) (.cons (.bi .len (.cons (.var 5) .nil)) .nil))))) (.cons (.set 6 (.tup (.cons (.cst (.str "put")) (.cons (.cst (.str "b")) (.cons (.var 14) (.cons (.cst (.int 7)) .nil)))))) (.cons (.set 7 (.lst (.cons (.call .Lcell (.cons (.var 11) (.cons (.var 14) .nil))) .nil))) .nil))) .nil) (.cons (.set 4 (.bin .add (.var 4) (.lst (.cons (.tup (.cons (.cst (.str "fill")) (.cons (.cst (.str "a")) (.cons (.cst (.int 3)) .nil)))) (.cons (.tup (.cons (.cst (.str "copy")) (.cons (.cst (.str "d")) (.cons (.cst (.str "c")) .nil)))) (.cons (.var 6) (.cons (.tup (.cons (.cst (.str "copy")) (.cons (.cst (.str "e")) (.cons (.cst (.str "c")) .nil)))) (.cons (.tup (.cons (.cst (.str "say")) (.cons (.cst (.str "c")) .nil))) .nil)))))))) (.cons (.set 8 (.call .run (.cons (.bin .add (.var 4) (.lst (.cons (.tup (.cons (.cst (.str "say")) (.cons (.cst (.str "d")) .nil))) (.cons (.tup (.cons (.cst (.str "say")) (.cons (.cst (.str "e")) .nil))) .nil)))) .nil))) (.cons (.set 9 (.bi .tuple (.cons (.lc (.nm 16) (.seq (.call .Lcells (.cons (.var 13) .nil))) .none (.ife (.cmp .inn (.var 16) (.var 7)) (.cst (.int 7)) (.cst (.int 3)))) .nil))) (.cons (.ife (.cmp .ne (.var 8) (.lst (.cons (.tup (.cons (.sub (.var 13) (.cst (.int 1))) (.cons (.var 9) .nil))) (.cons (.tup (.cons (.sub (.var 13) (.cst (.int 1))) (.cons (.bin .mul (.tup (.cons (.cst (.int 3)) .nil)) (.bi .len (.cons (.var 9) .nil))) .nil))) (.cons (.tup (.cons (.sub (.var 13) (.cst (.int 1))) (.cons (.var 9) .nil))) .nil))))) (.cons (.ret (.cst (.bl false))) .nil) .nil) .nil)))))))))))))
/-- LAW12 : 0=_law_script 1=_law_state 2=_law_turn 3=_law_sides_here 4=_law_program 5=_law_places_here 6=_law_deed 7=_law_goals 8=_law_told 9=_law_due 10=_law_ways_here 11=_law_one 12=_law_more 13=_law_other 14=_law_place 15=_law_way_here 16=_law_cell_here -/
def bLAW12 : EV.Ss Fu := (.cons (.heap 1 (.call .Lstart (.cons (.var 0) .nil))) (.cons (.for_ (.nm 2) (.rng 1 (.cons (.cst (.int 6)) .nil)) bLAW12_1) (.cons (.ret (.cst (.bl true))) .nil)))
def bLAW13_1 : EV.Ss Fu := (.cons (.heap 10 (.call .held (.cons (.var 3) .nil))) (.cons (.ife (.not (.call .Lsame (.cons (.var 10) (.cons (.var 6) .nil)))) (.cons (.ret (.cst (.bl false))) .nil) .nil) (.cons (.appL (.var 10) (.cst (.int 0))) .nil)))
def bLAW13_2 : EV.Ss Fu := (.cons (.set 4 (.call .Lknown (.cons (.var 4) (.cons (.var 5) (.cons (.var 7) .nil))))) (.cons (.set 9 (.lc (.nm 11) (.seq (.var 4)) .none (.sub (.op2 .dget (.var 4) (.var 11)) (.cst (.int 0))))) (.cons (.appL (.var 6) (.bi .sum (.cons (.lc (.nm 12) (.rng 1 (.cons (.bi .len (.cons (.var 5) .nil)) .nil)) (.some (.cmp .inn (.var 12) (.var 9))) (.sub (.var 5) (.var 12))) .nil))) .nil)))
def bLAW13_3 : EV.Ss Fu := (.cons (.set 3 (.call .Lprogram_k11 (.cons (.var 1) (.cons (.cst (.int 40)) .nil)))) (.cons (.set 4 (.dnew false)) (.cons (.set 5 (.lst .nil)) (.cons (.heap 6 (.lst .nil)) (.cons (.for_ (.nm 7) (.seq (.var 3)) bLAW13_2) (.cons (.for_ (.nm 8) (.rng 1 (.cons (.cst (.int 2)) .nil)) bLAW13_1) .nil))))))
/-- LAW13 : 0=_law_script 1=_law_state 2=_law_turn 3=_law_program_here 4=_law_known_here 5=_law_rooms 6=_law_due 7=_law_deed_here 8=_law_again 9=_law_looked 10=_law_found 11=_law_name 12=_law_room -/
def bLAW13 : EV.Ss Fu := (.cons (.heap 1 (.call .Lstart (.cons (.var 0) .nil))) (.cons (.for_ (.nm 2) (.rng 1 (.cons (.cst (.int 5)) .nil)) bLAW13_3) (.cons (.ret (.cst (.bl true))) .nil)))
def bLsteps_1 : EV.Ss Fu := (.cons (.ife (.cmp .eq (.sub (.var 1) (.cst (.int 0))) (.cst (.str "add"))) (.cons (.app 2 (.tup (.cons (.var 4) (.cons (.var 3) (.cons (.cst (.bl false)) .nil))))) .nil) .nil) (.cons (.app 2 (.tup (.cons (.var 4) (.cons (.var 3) (.cons (.cst (.bl true)) .nil))))) .nil))
/-- Lsteps : 0=_law_known_here 1=_law_deed_here 2=_law_found 3=_law_cell_here 4=_law_room 5=_law_look_here 6=_law_other 7=_law_source -/
def bLsteps : EV.Ss Fu := (.cons (.ife (.cmp .inn (.sub (.var 1) (.cst (.int 0))) (.tup (.cons (.cst (.str "new")) (.cons (.cst (.str "look")) (.cons (.cst (.str "drop")) .nil))))) (.cons (.ret (.lst .nil)) .nil) .nil) (.cons (.unp [4, 5] (.op2 .dget (.var 0) (.sub (.var 1) (.bin .add (.cst (.int 1)) (.op1 .intb (.cmp .eq (.sub (.var 1) (.cst (.int 0))) (.cst (.str "copy")))))))) (.cons (.ife (.cmp .eq (.sub (.var 1) (.cst (.int 0))) (.cst (.str "put"))) (.cons (.ret (.lst (.cons (.tup (.cons (.var 4) (.cons (.call .Lcell (.cons (.var 5) (.cons (.sub (.var 1) (.cst (.int 2))) .nil))) (.cons (.cst (.bl true)) .nil)))) .nil))) .nil) .nil) (.cons (.ife (.cmp .notin (.sub (.var 1) (.cst (.int 0))) (.tup (.cons (.cst (.str "set")) (.cons (.cst (.str "add")) .nil)))) (.cons (.ret (.lc (.nm 3) (.seq (.call .Lcells (.cons (.var 5) .nil))) .none (.tup (.cons (.var 4) (.cons (.var 3) (.cons (.cmp .eq (.sub (.var 1) (.cst (.int 0))) (.cst (.str "fill"))) .nil)))))) .nil) .nil) (.cons (.unp [6, 7] (.op2 .dget (.var 0) (.sub (.var 1) (.cst (.int 2))))) (.cons (.own 2 (.lc (.nm 3) (.seq (.call .Lcells (.cons (.call .Lover (.cons (.var 7) (.cons (.sub (.var 5) (.cst (.int 1))) .nil))) .nil))) .none (.tup (.cons (.var 6) (.cons (.var 3) (.cons (.cst (.bl false)) .nil)))))) (.cons (.for_ (.nm 3) (.seq (.call .Lcells (.cons (.var 5) .nil))) bLsteps_1) (.cons (.retV 2) .nil))))))))
/- Lreason not covered: expr Call(func=Attribute(value=Name(id='_law_shared', ctx=Load()), attr='get', ctx=Lo -/
/-- Lreason : 0=_law_program_here 1=_law_number 2=_law_known_here 3=_law_rooms 4=_law_writings 5=_law_k 6=_law_cells_of_copy 7=_law_first 8=_law_twin 9=_law_shared 10=_law_own 11=_law_look_here 12=_law_room 13=_law_cell_here 14=_law_is_written 15=_law_there -/
def bLreason : EV.Ss Fu := (.cons .never (.cons .never (.cons .never (.cons .never (.cons .never (.cons .never (.cons .never .nil)))))))
def bLlaid_over_1 : EV.Ss Fu := (.cons (.app 2 (.sub (.var 3) (.call .Ldrawn (.cons (.var 0) (.cons (.cst (.int 8)) .nil))))) (.cons (.app 2 (.tup (.cons (.cst (.str "say")) (.cons (.sub (.cst (.str "abce")) (.call .Ldrawn (.cons (.var 0) (.cons (.cst (.int 4)) .nil)))) .nil)))) .nil))
/-- Llaid_over : 0=_law_state 1=_law_wide 2=_law_found 3=_law_some 4=_law_turn -/
def bLlaid_over : EV.Ss Fu := (.cons (.set 1 (.tup (.cons (.bin .add (.cst (.int 2)) (.call .Ldrawn (.cons (.var 0) (.cons (.cst (.int 2)) .nil)))) (.cons (.bin .add (.cst (.int 1)) (.call .Ldrawn (.cons (.var 0) (.cons (.cst (.int 3)) .nil)))) .nil)))) (.cons (.own 2 (.lst (.cons (.tup (.cons (.cst (.str "new")) (.cons (.cst (.str "a")) (.cons (.slc (.var 1) (.some (.cst (.int 1))) .none) .nil)))) (.cons (.tup (.cons (.cst (.str "put")) (.cons (.cst (.str "a")) (.cons (.tup (.cons (.cst (.int 0)) .nil)) (.cons (.cst (.int 3)) .nil))))) (.cons (.tup (.cons (.cst (.str "look")) (.cons (.cst (.str "b")) (.cons (.cst (.str "a")) (.cons (.tup (.cons (.cst (.str "over")) (.cons (.var 1) .nil))) .nil))))) (.cons (.tup (.cons (.cst (.str "copy")) (.cons (.cst (.str "c")) (.cons (.cst (.str "b")) .nil)))) .nil)))))) (.cons (.own 2 (.bin .add (.var 2) (.lst (.cons (.tup (.cons (.cst (.str "new")) (.cons (.cst (.str "d")) (.cons (.var 1) .nil)))) (.cons (.tup (.cons (.cst (.str "put")) (.cons (.cst (.str "d")) (.cons (.tup (.cons (.cst (.int 0)) (.cons (.cst (.int 0)) .nil))) (.cons (.cst (.int 5)) .nil))))) (.cons (.tup (.cons (.cst (.str "look")) (.cons (.cst (.str "e")) (.cons (.cst (.str "c")) (.cons (.tup (.cons (.cst (.str "pick")) (.cons (.cst (.int 0)) (.cons (.call .Ldrawn (.cons (.var 0) (.cons (.cst (.int 2)) .nil))) .nil)))) .nil))))) .nil)))))) (.cons (.set 3 (.lst (.cons (.tup (.cons (.cst (.str "set")) (.cons (.cst (.str "c")) (.cons (.cst (.str "d")) .nil)))) (.cons (.tup (.cons (.cst (.str "add")) (.cons (.cst (.str "c")) (.cons (.cst (.str "d")) .nil)))) (.cons (.tup (.cons (.cst (.str "fill")) (.cons (.cst (.str "c")) (.cons (.cst (.int 7)) .nil)))) (.cons (.tup (.cons (.cst (.str "put")) (.cons (.cst (.str "c")) (.cons (.tup (.cons (.cst (.int 1)) (.cons (.cst (.int 0)) .nil))) (.cons (.cst (.int 4)) .nil))))) (.cons (.tup (.cons (.cst (.str "add")) (.cons (.cst (.str "c")) (.cons (.cst (.str "a")) .nil)))) .nil))))))) (.cons (.set 3 (.bin .add (.var 3) (.lst (.cons (.tup (.cons (.cst (.str "set")) (.cons (.cst (.str "a")) (.cons (.cst (.str "e")) .nil)))) (.cons (.tup (.cons (.cst (.str "add")) (.cons (.cst (.str "e")) (.cons (.cst (.str "e")) .nil)))) (.cons (.tup (.cons (.cst (.str "put")) (.cons (.cst (.str "a")) (.cons (.tup (.cons (.cst (.int 0)) .nil)) (.cons (.cst (.int 9)) .nil))))) .nil)))))) (.cons (.for_ (.nm 4) (.rng 1 (.cons (.bin .add (.cst (.int 1)) (.call .Ldrawn (.cons (.var 0) (.cons (.cst (.int 3)) .nil)))) .nil)) bLlaid_over_1) (.cons (.retV 2) .nil)))))))
/- LAW14 not covered: expr Lambda(args=arguments(posonlyargs=[], args=[], kwonlyargs=[], kw_defaults=[], de -/
/-- LAW14 : 0=_law_script 1=_law_state 2=_law_turn 3=_law_program_here 4=_law_number 5=_law_odd 6=_law_others 7=_law_k -/
def bLAW14 : EV.Ss Fu := (.cons .never (.cons .never (.cons .never .nil)))
def bLfits_1 : EV.Ss Fu := (.cons (.ife (.and (.cons (.cmp .eq (.sub (.var 3) (.cst (.int 0))) (.cst (.str "look"))) (.cons (.cmp .isn (.call .Lthrough (.cons (.sub (.op2 .dget (.var 1) (.sub (.var 3) (.cst (.int 2)))) (.cst (.int 1))) (.cons (.sub (.var 3) (.cst (.int 3))) .nil))) (.cst .non)) .nil))) (.cons (.ret (.cst (.bl false))) .nil) .nil) (.cons (.set 1 (.call .Lknown (.cons (.var 1) (.cons (.var 2) (.cons (.var 3) .nil))))) .nil))
/-- Lfits : 0=_law_program_here 1=_law_known_here 2=_law_rooms 3=_law_deed_here -/
def bLfits : EV.Ss Fu := (.cons (.set 1 (.dnew false)) (.cons (.set 2 (.lst .nil)) (.cons (.for_ (.nm 3) (.seq (.var 0)) bLfits_1) (.cons (.ret (.cst (.bl true))) .nil))))
def bLlean_1 : EV.Ss Fu := (.cons (.set 3 (.call .Lknown (.cons (.var 3) (.cons (.var 4) (.cons (.var 5) .nil))))) .nil)
def bLlean_2 : EV.Ss Fu := (.cons (.ife (.and (.cons (.cmp .eq (.sub (.sub (.var 1) (.var 2)) (.cst (.int 0))) (.cst (.str "copy"))) (.cons (.cmp .isn (.call .Lreason (.cons (.var 1) (.cons (.var 2) .nil))) (.cst .non)) .nil))) (.cons (.set 3 (.dnew false)) (.cons (.set 4 (.lst .nil)) (.cons (.for_ (.nm 5) (.seq (.slc (.var 1) .none (.some (.var 2)))) bLlean_1) (.cons (.unp [8, 9, 10] (.sub (.var 1) (.var 2))) (.cons (.set 6 (.sub (.sub (.op2 .dget (.var 3) (.var 10)) (.cst (.int 1))) (.cst (.int 1)))) (.cons (.set 7 (.bin .add (.bin .add (.slc (.var 1) .none (.some (.var 2))) (.lst (.cons (.tup (.cons (.cst (.str "look")) (.cons (.var 9) (.cons (.var 10) (.cons (.tup (.cons (.cst (.str "turned")) (.cons (.rgc true 1 (.cons (.bi .len (.cons (.var 6) .nil)) .nil)) .nil))) .nil))))) .nil))) (.slc (.var 1) (.some (.bin .add (.var 2) (.cst (.int 1)))) .none))) (.cons (.set 1 (.ife (.call .Lfits (.cons (.var 7) .nil)) (.var 7) (.var 1))) .nil))))))) .nil) .nil)
/-- Llean : 0=_law_program_here 1=_law_found 2=_law_number 3=_law_known_here 4=_law_rooms 5=_law_deed_here 6=_law_sides_here 7=_law_some 8=_law_word 9=_law_name 10=_law_other -/
def bLlean : EV.Ss Fu := (.cons (.set 1 (.bi .list (.cons (.var 0) .nil))) (.cons (.for_ (.nm 2) (.rng 1 (.cons (.bi .len (.cons (.var 0) .nil)) .nil)) bLlean_2) (.cons (.ret (.var 1)) .nil)))
def bLAW15_1 : EV.Ss Fu := (.cons (.heap 7 (.call .leaned (.cons (.var 4) .nil))) (.cons (.ife (.or (.cons (.not (.call .Lsame (.cons (.var 7) (.cons (.var 5) .nil)))) (.cons (.cmp .ne (.var 4) (.var 3)) .nil))) (.cons (.ret (.cst (.bl false))) .nil) .nil) (.cons (.appL (.var 7) (.tup .nil)) .nil)))
def bLAW15_2 : EV.Ss Fu := (.cons (.set 3 (.sub (.lst (.cons (.call .Lprogram (.cons (.var 1) (.cons (.cst (.int 40)) .nil))) (.cons (.call .Llaid_over (.cons (.var 1) .nil)) .nil))) (.bin .fdiv (.call .Ldrawn (.cons (.var 1) (.cons (.cst (.int 4)) .nil))) (.cst (.int 3))))) (.cons (.set 4 (.bi .list (.cons (.var 3) .nil))) (.cons (.set 5 (.call .Llean (.cons (.var 3) .nil))) (.cons (.for_ (.nm 6) (.rng 1 (.cons (.cst (.int 2)) .nil)) bLAW15_1) .nil))))
/-- LAW15 : 0=_law_script 1=_law_state 2=_law_turn 3=_law_program_here 4=_law_handed 5=_law_due 6=_law_again 7=_law_found -/
def bLAW15 : EV.Ss Fu := (.cons (.heap 1 (.call .Lstart (.cons (.var 0) .nil))) (.cons (.for_ (.nm 2) (.rng 1 (.cons (.cst (.int 5)) .nil)) bLAW15_2) (.cons (.ret (.cst (.bl true))) .nil)))
def bLAW16_1 : EV.Ss Fu := (.cons (.set 3 (.sub (.lst (.cons (.call .Lprogram (.cons (.var 1) (.cons (.cst (.int 40)) .nil))) (.cons (.call .Llaid_over (.cons (.var 1) .nil)) .nil))) (.bin .fdiv (.call .Ldrawn (.cons (.var 1) (.cons (.cst (.int 4)) .nil))) (.cst (.int 3))))) (.cons (.set 4 (.call .leaned (.cons (.var 3) .nil))) (.cons (.set 5 (.call .run (.cons (.var 3) .nil))) (.cons (.ife (.or (.cons (.cmp .ne (.call .run (.cons (.var 4) .nil)) (.var 5)) (.cons (.cmp .ne (.sub (.call .run_careful (.cons (.var 4) .nil)) (.cst (.int 0))) (.var 5)) (.cons (.cmp .ne (.bi .len (.cons (.var 4) .nil)) (.bi .len (.cons (.var 3) .nil))) .nil)))) (.cons (.ret (.cst (.bl false))) .nil) .nil) (.cons (.set 6 (.lc (.nm 9) (.rng 1 (.cons (.bi .len (.cons (.var 4) .nil)) .nil)) (.some (.cmp .eq (.sub (.sub (.var 4) (.var 9)) (.cst (.int 0))) (.cst (.str "copy")))) (.var 9))) (.cons (.ife (.cmp .ne (.lc (.nm 9) (.seq (.var 6)) (.some (.cmp .ne (.sub (.var 3) (.var 9)) (.sub (.var 4) (.var 9)))) (.var 9)) (.lst .nil)) (.cons (.ret (.cst (.bl false))) .nil) .nil) (.cons (.ife (.cmp .ne (.lc (.nm 9) (.rng 1 (.cons (.bi .len (.cons (.var 4) .nil)) .nil)) (.some (.and (.cons (.cmp .ne (.sub (.sub (.var 3) (.var 9)) (.cst (.int 0))) (.cst (.str "copy"))) (.cons (.cmp .ne (.sub (.var 3) (.var 9)) (.sub (.var 4) (.var 9))) .nil)))) (.var 9)) (.lst .nil)) (.cons (.ret (.cst (.bl false))) .nil) .nil) (.cons (.set 7 (.slc (.lc (.nm 9) (.rng 1 (.cons (.bi .len (.cons (.var 3) .nil)) .nil)) (.some (.cmp .eq (.sub (.sub (.var 3) (.var 9)) (.cst (.int 0))) (.cst (.str "copy")))) (.var 9)) .none (.some (.cst (.int 1))))) (.cons (.set 8 (.lc (.nm 10) (.seq (.var 3)) (.some (.and (.cons (.cmp .eq (.sub (.var 10) (.cst (.int 0))) (.cst (.str "look"))) (.cons (.cmp .eq (.sub (.sub (.var 10) (.cst (.int 3))) (.cst (.int 0))) (.cst (.str "shaped"))) .nil)))) (.var 10))) (.cons (.ife (.and (.cons (.cmp .ne (.var 7) (.lst .nil)) (.cons (.cmp .eq (.var 8) (.lst .nil)) (.cons (.cmp .ne (.cmp .isn (.call .reason (.cons (.var 3) (.cons (.sub (.var 7) (.cst (.int 0))) .nil))) (.cst .non)) (.cmp .notin (.sub (.var 7) (.cst (.int 0))) (.var 6))) .nil)))) (.cons (.ret (.cst (.bl false))) .nil) .nil) .nil))))))))))
/-- LAW16 : 0=_law_script 1=_law_state 2=_law_turn 3=_law_program_here 4=_law_small 5=_law_due 6=_law_copies 7=_law_first 8=_law_anew 9=_law_k 10=_law_deed_here -/
def bLAW16 : EV.Ss Fu := (.cons (.heap 1 (.call .Lstart (.cons (.var 0) .nil))) (.cons (.for_ (.nm 2) (.rng 1 (.cons (.cst (.int 5)) .nil)) bLAW16_1) (.cons (.ret (.cst (.bl true))) .nil)))
def bLputs_1 : EV.Ss Fu := (.cons (.ext 2 (.lc (.nm 4) (.rng 1 (.cons (.bi .len (.cons (.sub (.var 1) (.var 3)) .nil)) .nil)) .none (.tup (.cons (.cst (.str "put")) (.cons (.var 0) (.cons (.tup (.cons (.var 3) (.cons (.var 4) .nil))) (.cons (.sub (.sub (.var 1) (.var 3)) (.var 4)) .nil))))))) .nil)
/-- Lputs : 0=_law_name 1=_law_rows 2=_law_found 3=_law_k 4=_law_j -/
def bLputs : EV.Ss Fu := (.cons (.own 2 (.lst .nil)) (.cons (.for_ (.nm 3) (.rng 1 (.cons (.bi .len (.cons (.var 1) .nil)) .nil)) bLputs_1) (.cons (.retV 2) .nil)))
/-- Lis : 0=_law_program 1=_law_told 2=_law_copied 3=_law_found -/
def bLis : EV.Ss Fu := (.cons (.set 3 (.call .run_careful (.cons (.var 0) .nil))) (.cons (.ife (.or (.cons (.not (.call .Lsame (.cons (.call .run (.cons (.var 0) .nil)) (.cons (.var 1) .nil)))) (.cons (.not (.call .Lsame (.cons (.sub (.var 3) (.cst (.int 0))) (.cons (.var 1) .nil)))) .nil))) (.cons (.ret (.cst (.bl false))) .nil) .nil) (.cons (.ret (.or (.cons (.cmp .isn (.var 2) (.cst .non)) (.cons (.cmp .eq (.sub (.var 3) (.cst (.int 1))) (.var 2)) .nil)))) .nil)))
def bLtable_right_1 : EV.Ss Fu := (.cons (.ext 2 (.lc (.nm 5) (.rng 1 (.cons (.var 1) .nil)) .none (.sub (.sub (.var 0) (.var 5)) (.var 3)))) .nil)
/-- Ltable_right : 0=_law_rows 1=_law_many 2=_law_flat 3=_law_k 4=_law_program 5=_law_j -/
def bLtable_right : EV.Ss Fu := (.cons (.set 1 (.bi .len (.cons (.var 0) .nil))) (.cons (.own 2 (.lst .nil)) (.cons (.for_ (.nm 3) (.rng 1 (.cons (.var 1) .nil)) bLtable_right_1) (.cons (.set 4 (.bin .add (.lst (.cons (.tup (.cons (.cst (.str "new")) (.cons (.cst (.str "a")) (.cons (.tup (.cons (.var 1) (.cons (.var 1) .nil))) .nil)))) .nil)) (.call .Lputs (.cons (.cst (.str "a")) (.cons (.var 0) .nil))))) (.cons (.set 4 (.bin .add (.var 4) (.lst (.cons (.tup (.cons (.cst (.str "look")) (.cons (.cst (.str "b")) (.cons (.cst (.str "a")) (.cons (.tup (.cons (.cst (.str "turned")) (.cons (.tup (.cons (.cst (.int 1)) (.cons (.cst (.int 0)) .nil))) .nil))) .nil))))) (.cons (.tup (.cons (.cst (.str "set")) (.cons (.cst (.str "a")) (.cons (.cst (.str "b")) .nil)))) (.cons (.tup (.cons (.cst (.str "say")) (.cons (.cst (.str "a")) .nil))) .nil)))))) (.cons (.ret (.call .Lis (.cons (.var 4) (.cons (.lst (.cons (.tup (.cons (.tup (.cons (.var 1) (.cons (.var 1) .nil))) (.cons (.bi .tuple (.cons (.var 2) .nil)) .nil))) .nil)) (.cons (.bin .mul (.var 1) (.var 1)) .nil))))) .nil))))))
/-- Lmoved_right : 0=_law_wide 1=_law_shift 2=_law_line 3=_law_moved 4=_law_one 5=_law_two 6=_law_back -/
def bLmoved_right : EV.Ss Fu := (.cons (.set 3 (.bin .add (.bin .add (.var 0) (.var 1)) (.lst (.cons (.tup (.cons (.cst (.str "set")) (.cons (.cst (.str "c")) (.cons (.cst (.str "b")) .nil)))) (.cons (.tup (.cons (.cst (.str "say")) (.cons (.cst (.str "a")) .nil))) (.cons (.tup (.cons (.cst (.str "set")) (.cons (.cst (.str "b")) (.cons (.cst (.str "c")) .nil)))) (.cons (.tup (.cons (.cst (.str "say")) (.cons (.cst (.str "a")) .nil))) .nil))))))) (.cons (.set 4 (.bin .add (.slc (.var 2) (.some (.cst (.int 1))) .none) (.slc (.var 2) (.some (.op1 .neg (.cst (.int 1)))) .none))) (.cons (.set 5 (.bin .add (.slc (.var 4) .none (.some (.cst (.int 1)))) (.slc (.var 4) .none (.some (.op1 .neg (.cst (.int 1))))))) (.cons (.ife (.not (.call .Lis (.cons (.var 3) (.cons (.lst (.cons (.tup (.cons (.tup (.cons (.cst (.int 8)) .nil)) (.cons (.bi .tuple (.cons (.var 4) .nil)) .nil))) (.cons (.tup (.cons (.tup (.cons (.cst (.int 8)) .nil)) (.cons (.bi .tuple (.cons (.var 5) .nil)) .nil))) .nil))) (.cons (.cst (.int 0)) .nil))))) (.cons (.ret (.cst (.bl false))) .nil) .nil) (.cons (.set 6 (.bin .add (.var 0) (.lst (.cons (.tup (.cons (.cst (.str "look")) (.cons (.cst (.str "b")) (.cons (.cst (.str "a")) (.cons (.tup (.cons (.cst (.str "cut")) (.cons (.cst (.int 0)) (.cons (.cst (.int 7)) (.cons (.bin .sub (.cst (.int 0)) (.cst (.int 1))) (.cons (.bin .sub (.cst (.int 0)) (.cst (.int 1))) .nil)))))) .nil))))) (.cons (.tup (.cons (.cst (.str "set")) (.cons (.cst (.str "a")) (.cons (.cst (.str "b")) .nil)))) (.cons (.tup (.cons (.cst (.str "say")) (.cons (.cst (.str "a")) .nil))) .nil)))))) (.cons (.ret (.call .Lis (.cons (.var 6) (.cons (.lst (.cons (.tup (.cons (.tup (.cons (.cst (.int 8)) .nil)) (.cons (.bi .tuple (.cons (.op1 .rvs (.var 2)) .nil)) .nil))) .nil)) (.cons (.cst (.int 8)) .nil))))) .nil))))))
def bLAW17_1 : EV.Ss Fu := (.cons (.set 3 (.bin .add (.cst (.int 2)) (.call .Ldrawn (.cons (.var 1) (.cons (.cst (.int 3)) .nil))))) (.cons (.set 4 (.lc (.nm 10) (.rng 1 (.cons (.var 3) .nil)) .none (.lc (.nm 11) (.rng 1 (.cons (.var 3) .nil)) .none (.call .Ldrawn (.cons (.var 1) (.cons (.cst (.int 10007)) .nil)))))) (.cons (.ife (.not (.call .Ltable_right (.cons (.var 4) .nil))) (.cons (.ret (.cst (.bl false))) .nil) .nil) (.cons (.set 5 (.lc (.nm 10) (.rng 1 (.cons (.cst (.int 8)) .nil)) .none (.call .Ldrawn (.cons (.var 1) (.cons (.cst (.int 10007)) .nil))))) (.cons (.set 6 (.bin .add (.bin .add (.lst (.cons (.tup (.cons (.cst (.str "new")) (.cons (.cst (.str "a")) (.cons (.tup (.cons (.cst (.int 1)) (.cons (.cst (.int 8)) .nil))) .nil)))) .nil)) (.call .Lputs (.cons (.cst (.str "a")) (.cons (.lst (.cons (.var 5) .nil)) .nil)))) (.lst (.cons (.tup (.cons (.cst (.str "look")) (.cons (.cst (.str "a")) (.cons (.cst (.str "a")) (.cons (.tup (.cons (.cst (.str "shaped")) (.cons (.tup (.cons (.cst (.int 8)) .nil)) .nil))) .nil))))) .nil)))) (.cons (.set 7 (.lst (.cons (.tup (.cons (.cst (.str "look")) (.cons (.cst (.str "b")) (.cons (.cst (.str "a")) (.cons (.tup (.cons (.cst (.str "cut")) (.cons (.cst (.int 0)) (.cons (.cst (.int 1)) (.cons (.cst (.int 8)) (.cons (.cst (.int 1)) .nil)))))) .nil))))) (.cons (.tup (.cons (.cst (.str "look")) (.cons (.cst (.str "c")) (.cons (.cst (.str "a")) (.cons (.tup (.cons (.cst (.str "cut")) (.cons (.cst (.int 0)) (.cons (.cst (.int 0)) (.cons (.cst (.int 7)) (.cons (.cst (.int 1)) .nil)))))) .nil))))) .nil)))) (.cons (.set 8 (.bi .tuple (.cons (.bin .add (.lst (.cons (.sub (.var 5) (.cst (.int 0))) .nil)) (.lc (.nm 10) (.rng 2 (.cons (.cst (.int 1)) (.cons (.cst (.int 8)) .nil))) .none (.bin .mod (.bin .add (.sub (.var 5) (.var 10)) (.sub (.var 5) (.bin .sub (.var 10) (.cst (.int 1))))) (.cst (.int 10007))))) .nil))) (.cons (.ife (.not (.call .Lis (.cons (.bin .add (.bin .add (.var 6) (.var 7)) (.lst (.cons (.tup (.cons (.cst (.str "add")) (.cons (.cst (.str "b")) (.cons (.cst (.str "c")) .nil)))) (.cons (.tup (.cons (.cst (.str "say")) (.cons (.cst (.str "a")) .nil))) .nil)))) (.cons (.lst (.cons (.tup (.cons (.tup (.cons (.cst (.int 8)) .nil)) (.cons (.var 8) .nil))) .nil)) (.cons (.cst (.int 0)) .nil))))) (.cons (.ret (.cst (.bl false))) .nil) .nil) (.cons (.ife (.not (.call .Lmoved_right (.cons (.var 6) (.cons (.var 7) (.cons (.var 5) .nil))))) (.cons (.ret (.cst (.bl false))) .nil) .nil) (.cons (.set 9 (.bin .add (.var 6) (.lst (.cons (.tup (.cons (.cst (.str "copy")) (.cons (.cst (.str "d")) (.cons (.cst (.str "a")) .nil)))) (.cons (.tup (.cons (.cst (.str "copy")) (.cons (.cst (.str "e")) (.cons (.cst (.str "a")) .nil)))) (.cons (.tup (.cons (.cst (.str "look")) (.cons (.cst (.str "f")) (.cons (.cst (.str "e")) (.cons (.tup (.cons (.cst (.str "cut")) (.cons (.cst (.int 0)) (.cons (.cst (.int 1)) (.cons (.cst (.int 8)) (.cons (.cst (.int 1)) .nil)))))) .nil))))) .nil)))))) (.cons (.set 9 (.bin .add (.var 9) (.lst (.cons (.tup (.cons (.cst (.str "look")) (.cons (.cst (.str "g")) (.cons (.cst (.str "a")) (.cons (.tup (.cons (.cst (.str "cut")) (.cons (.cst (.int 0)) (.cons (.cst (.int 0)) (.cons (.cst (.int 7)) (.cons (.cst (.int 1)) .nil)))))) .nil))))) (.cons (.tup (.cons (.cst (.str "add")) (.cons (.cst (.str "f")) (.cons (.cst (.str "g")) .nil)))) (.cons (.tup (.cons (.cst (.str "look")) (.cons (.cst (.str "f")) (.cons (.cst (.str "e")) (.cons (.tup (.cons (.cst (.str "pick")) (.cons (.cst (.int 0)) (.cons (.cst (.int 0)) .nil)))) .nil))))) .nil)))))) (.cons (.set 9 (.bin .add (.var 9) (.lst (.cons (.tup (.cons (.cst (.str "look")) (.cons (.cst (.str "g")) (.cons (.cst (.str "a")) (.cons (.tup (.cons (.cst (.str "pick")) (.cons (.cst (.int 0)) (.cons (.cst (.int 7)) .nil)))) .nil))))) (.cons (.tup (.cons (.cst (.str "add")) (.cons (.cst (.str "f")) (.cons (.cst (.str "g")) .nil)))) (.cons (.tup (.cons (.cst (.str "say")) (.cons (.cst (.str "e")) .nil))) (.cons (.tup (.cons (.cst (.str "say")) (.cons (.cst (.str "d")) .nil))) .nil))))))) (.cons (.set 8 (.bi .tuple (.cons (.lc (.nm 10) (.rng 1 (.cons (.cst (.int 8)) .nil)) .none (.bin .mod (.bin .add (.sub (.var 5) (.var 10)) (.sub (.var 5) (.bin .sub (.var 10) (.cst (.int 1))))) (.cst (.int 10007)))) .nil))) (.cons (.ife (.not (.call .Lis (.cons (.var 9) (.cons (.lst (.cons (.tup (.cons (.tup (.cons (.cst (.int 8)) .nil)) (.cons (.var 8) .nil))) (.cons (.tup (.cons (.tup (.cons (.cst (.int 8)) .nil)) (.cons (.bi .tuple (.cons (.var 5) .nil)) .nil))) .nil))) (.cons (.cst .non) .nil))))) (.cons (.ret (.cst (.bl false))) .nil) .nil) .nil))))))))))))))
/-- LAW17 : 0=_law_script 1=_law_state 2=_law_turn 3=_law_many 4=_law_rows 5=_law_line 6=_law_wide 7=_law_shift 8=_law_due 9=_law_ring 10=_law_k 11=_law_j -/
def bLAW17 : EV.Ss Fu := (.cons (.heap 1 (.call .Lstart (.cons (.var 0) .nil))) (.cons (.for_ (.nm 2) (.rng 1 (.cons (.cst (.int 4)) .nil)) bLAW17_1) (.cons (.ret (.cst (.bl true))) .nil)))
/-- number_of : 0=word 1=figures 2=sign -/
def bnumber_of : EV.Ss Fu := (.cons (.set 1 (.ife (.cmp .eq (.slc (.var 0) .none (.some (.cst (.int 1)))) (.cst (.str "-"))) (.slc (.var 0) (.some (.cst (.int 1))) .none) (.var 0))) (.cons (.ife (.or (.cons (.not (.ch2 .le .le (.cst (.int 1)) (.bi .len (.cons (.var 1) .nil)) (.glb "MOST_FIGURES" (.int 5)))) (.cons (.cmp .ne (.lc (.nm 2) (.seq (.var 1)) (.some (.cmp .notin (.var 2) (.glb "FIGURES" (.str "0123456789")))) (.var 2)) (.lst .nil)) .nil))) (.cons (.ret (.cst .non)) .nil) .nil) (.cons (.ife (.and (.cons (.cmp .eq (.sub (.var 1) (.cst (.int 0))) (.cst (.str "0"))) (.cons (.cmp .ne (.var 0) (.cst (.str "0"))) .nil))) (.cons (.ret (.cst .non)) .nil) .nil) (.cons (.ret (.op1 .intb (.var 0))) .nil))))
/- row_of not covered: expr Call(func=Attribute(value=Name(id='word', ctx=Load()), attr='split', ctx=Load()) -/
/-- row_of : 0=word 1=found 2=one -/
def brow_of : EV.Ss Fu := (.cons .never (.cons .never (.cons .never .nil)))
/- way_of not covered: name WAYS -/
/-- way_of : 0=words 1=many 2=rest 3=word -/
def bway_of : EV.Ss Fu := (.cons .never (.cons .never (.cons .never (.cons .never .nil))))
/- deed_of not covered: expr Dict(keys=[Constant(value='new'), Constant(value='copy'), Constant(value='fill') -/
/-- deed_of : 0=words 1=sorts 2=found 3=way 4=sort 5=word -/
def bdeed_of : EV.Ss Fu := (.cons .never (.cons .never (.cons .never (.cons .never (.cons .never (.cons .never (.cons .never .nil)))))))
/- read not covered: expr Call(func=Attribute(value=Name(id='row', ctx=Load()), attr='split', ctx=Load()), -/
/-- read : 0=text 1=rows 2=found 3=number 4=row 5=deed -/
def bread : EV.Ss Fu := (.cons .never (.cons .never (.cons .never (.cons .never (.cons .never .nil)))))
/- Lwords not covered: expr Call(func=Attribute(value=Constant(value=' '), attr='join', ctx=Load()), args=[N -/
/-- Lwords : 0=_law_deed_here 1=_law_found 2=_law_parts 3=_law_part 4=_law_one -/
def bLwords : EV.Ss Fu := (.cons .never (.cons .never (.cons .never (.cons .never .nil))))
/- LAW18 not covered: expr Call(func=Attribute(value=Constant(value='\n'), attr='join', ctx=Load()), args=[ -/
/-- LAW18 : 0=_law_script 1=_law_state 2=_law_turn 3=_law_program_here 4=_law_text 5=_law_handed 6=_law_found 7=_law_deed_here -/
def bLAW18 : EV.Ss Fu := (.cons .never (.cons .never (.cons .never .nil)))
/-- Lnumber : 0=_law_word 1=_law_figures 2=_law_sign -/
def bLnumber : EV.Ss Fu := (.cons (.set 1 (.slc (.var 0) (.some (.op1 .intb (.cmp .eq (.slc (.var 0) .none (.some (.cst (.int 1)))) (.cst (.str "-"))))) .none)) (.cons (.ife (.or (.cons (.cmp .eq (.var 1) (.cst (.str ""))) (.cons (.cmp .gt (.bi .len (.cons (.var 1) .nil)) (.cst (.int 5))) (.cons (.cmp .ne (.lc (.nm 2) (.seq (.var 1)) (.some (.cmp .notin (.var 2) (.cst (.str "0123456789")))) (.var 2)) (.lst .nil)) .nil)))) (.cons (.ret (.cst .non)) .nil) .nil) (.cons (.ret (.ife (.and (.cons (.cmp .eq (.sub (.var 1) (.cst (.int 0))) (.cst (.str "0"))) (.cons (.cmp .ne (.var 0) (.cst (.str "0"))) .nil))) (.cst .non) (.op1 .intb (.var 0)))) .nil)))
/- Lpart not covered: expr Call(func=Attribute(value=Name(id='_law_word', ctx=Load()), attr='split', ctx=Lo -/
/-- Lpart : 0=_law_word 1=_law_sort 2=_law_some 3=_law_number_here 4=_law_one -/
def bLpart : EV.Ss Fu := (.cons .never (.cons .never (.cons .never (.cons .never .nil))))
/- Lread not covered: expr Dict(keys=[Constant(value='cut'), Constant(value='pick'), Constant(value='turned -/
/-- Lread : 0=_law_row 1=_law_words_here 2=_law_shapes 3=_law_ways 4=_law_sorts 5=_law_rest 6=_law_way_here 7=_law_found 8=_law_word 9=_law_sort 10=_law_one -/
def bLread : EV.Ss Fu := (.cons .never (.cons .never (.cons .never (.cons .never (.cons .never (.cons .never (.cons .never (.cons .never (.cons .never (.cons .never (.cons .never (.cons .never .nil))))))))))))
/- Lspoilt not covered: expr Call(func=Attribute(value=Constant(value='\n'), attr='join', ctx=Load()), args=[ -/
/-- Lspoilt : 0=_law_state 1=_law_text 2=_law_way_here 3=_law_at 4=_law_signs 5=_law_sign 6=_law_rows 7=_law_k 8=_law_words_here 9=_law_j 10=_law_odd 11=_law_some -/
def bLspoilt : EV.Ss Fu := (.cons .never (.cons .never (.cons .never (.cons .never (.cons .never (.cons .never (.cons .never (.cons .never (.cons .never (.cons .never (.cons .never (.cons .never (.cons .never (.cons .never .nil))))))))))))))
/- LAW19 not covered: expr Lambda(args=arguments(posonlyargs=[], args=[], kwonlyargs=[], kw_defaults=[], de -/
/-- LAW19 : 0=_law_script 1=_law_state 2=_law_odd 3=_law_turn 4=_law_text 5=_law_change 6=_law_some 7=_law_rows 8=_law_deeds 9=_law_due 10=_law_told 11=_law_deed_here 12=_law_row -/
def bLAW19 : EV.Ss Fu := (.cons .never (.cons .never (.cons .never (.cons .never (.cons .never (.cons .never (.cons .never .nil)))))))
def bLnamed_1 : EV.Ss Fu := (.cons (.app 2 (.ife (.isi (.var 3) .str) (.sub (.var 1) (.op2 .idx (.cst (.str "abcdefgh")) (.var 3))) (.var 3))) .nil)
/-- Lnamed : 0=_law_deed_here 1=_law_names 2=_law_found 3=_law_part -/
def bLnamed : EV.Ss Fu := (.cons (.own 2 (.lst (.cons (.sub (.var 0) (.cst (.int 0))) (.cons (.sub (.var 1) (.op2 .idx (.cst (.str "abcdefgh")) (.sub (.var 0) (.cst (.int 1))))) .nil)))) (.cons (.for_ (.nm 3) (.seq (.slc (.var 0) (.some (.cst (.int 2))) .none)) bLnamed_1) (.cons (.ret (.bi .tuple (.cons (.var 2) .nil))) .nil)))
def bLonly_1 : EV.Ss Fu := (.cons (.set 4 (.lst (.cons (.tup (.cons (.cst (.str "fill")) (.cons (.cst (.str "h")) (.cons (.cst (.int 5)) .nil)))) (.cons (.tup (.cons (.cst (.str "put")) (.cons (.cst (.str "h")) (.cons (.tup (.cons (.cst (.int 1)) (.cons (.cst (.int 0)) .nil))) (.cons (.cst (.int 9)) .nil))))) (.cons (.tup (.cons (.cst (.str "look")) (.cons (.cst (.str "h")) (.cons (.cst (.str "h")) (.cons (.tup (.cons (.cst (.str "turned")) (.cons (.tup (.cons (.cst (.int 1)) (.cons (.cst (.int 0)) .nil))) .nil))) .nil))))) (.cons (.tup (.cons (.cst (.str "add")) (.cons (.cst (.str "h")) (.cons (.cst (.str "h")) .nil)))) .nil)))))) (.cons (.set 2 (.bin .add (.bin .add (.var 2) (.lst (.cons (.var 3) .nil))) (.bin .mul (.lst (.cons (.sub (.var 4) (.call .Ldrawn (.cons (.var 0) (.cons (.cst (.int 4)) .nil)))) .nil)) (.call .Ldrawn (.cons (.var 0) (.cons (.cst (.int 2)) .nil)))))) .nil))
/-- Lonly : 0=_law_state 1=_law_program_here 2=_law_found 3=_law_deed_here 4=_law_more -/
def bLonly : EV.Ss Fu := (.cons (.set 2 (.lst (.cons (.tup (.cons (.cst (.str "new")) (.cons (.cst (.str "h")) (.cons (.tup (.cons (.cst (.int 2)) (.cons (.cst (.int 2)) .nil))) .nil)))) .nil))) (.cons (.for_ (.nm 3) (.seq (.var 1)) bLonly_1) (.cons (.ret (.var 2)) .nil)))
def bLAW20_1 : EV.Ss Fu := (.cons (.set 3 (.call .Lprogram (.cons (.var 1) (.cons (.cst (.int 18)) .nil)))) (.cons (.set 4 (.bi .list (.cons (.cst (.str "abcdefgh")) .nil))) (.cons (.set 5 (.lc (.nm 11) (.rng 1 (.cons (.cst (.int 8)) .nil)) .none (.popL (.var 4) (.call .Ldrawn (.cons (.var 1) (.cons (.bi .len (.cons (.var 4) .nil)) .nil)))))) (.cons (.set 6 (.lc (.nm 12) (.seq (.var 3)) .none (.call .Lnamed (.cons (.var 12) (.cons (.var 5) .nil))))) (.cons (.set 7 (.call .run_careful (.cons (.var 3) .nil))) (.cons (.ife (.or (.cons (.cmp .ne (.call .run_careful (.cons (.var 6) .nil)) (.var 7)) (.cons (.cmp .ne (.call .run (.cons (.var 6) .nil)) (.sub (.var 7) (.cst (.int 0)))) (.cons (.cmp .ne (.call .held (.cons (.var 6) .nil)) (.call .held (.cons (.var 3) .nil))) .nil)))) (.cons (.ret (.cst (.bl false))) .nil) .nil) (.cons (.ife (.and (.cons (.cmp .eq (.lc (.nm 12) (.seq (.var 3)) (.some (.cmp .inn (.cst (.str "h")) (.var 12))) (.var 12)) (.lst .nil)) (.cons (.cmp .ne (.call .run (.cons (.call .Lonly (.cons (.var 1) (.cons (.var 3) .nil))) .nil)) (.sub (.var 7) (.cst (.int 0)))) .nil))) (.cons (.ret (.cst (.bl false))) .nil) .nil) (.cons (.ife (.and (.cons (.cmp .ne (.var 3) (.lst .nil)) (.cons (.cmp .eq (.sub (.sub (.var 3) (.op1 .neg (.cst (.int 1)))) (.cst (.int 0))) (.cst (.str "say"))) .nil))) (.cons (.set 8 (.sub (.sub (.var 3) (.op1 .neg (.cst (.int 1)))) (.cst (.int 1)))) (.cons (.set 9 (.sub (.sub (.sub (.var 7) (.cst (.int 0))) (.op1 .neg (.cst (.int 1)))) (.cst (.int 0)))) (.cons (.set 10 (.bin .add (.slc (.var 3) .none (.some (.op1 .neg (.cst (.int 1))))) (.lst (.cons (.tup (.cons (.cst (.str "look")) (.cons (.var 8) (.cons (.var 8) (.cons (.tup (.cons (.cst (.str "shaped")) (.cons (.var 9) .nil))) .nil))))) (.cons (.tup (.cons (.cst (.str "look")) (.cons (.var 8) (.cons (.var 8) (.cons (.tup (.cons (.cst (.str "over")) (.cons (.var 9) .nil))) .nil))))) .nil))))) (.cons (.ife (.cmp .ne (.call .run (.cons (.bin .add (.var 10) (.lst (.cons (.sub (.var 3) (.op1 .neg (.cst (.int 1)))) .nil))) .nil)) (.sub (.var 7) (.cst (.int 0)))) (.cons (.ret (.cst (.bl false))) .nil) .nil) .nil)))) .nil) .nil))))))))
/-- LAW20 : 0=_law_script 1=_law_state 2=_law_turn 3=_law_program_here 4=_law_left 5=_law_names 6=_law_other 7=_law_due 8=_law_name 9=_law_sides_here 10=_law_more 11=_law_k 12=_law_deed_here -/
def bLAW20 : EV.Ss Fu := (.cons (.heap 1 (.call .Lstart (.cons (.var 0) .nil))) (.cons (.for_ (.nm 2) (.rng 1 (.cons (.cst (.int 4)) .nil)) bLAW20_1) (.cons (.ret (.cst (.bl true))) .nil)))
/-- led_k21 : 0=look 1=way 2=found -/
def bled_k21 : EV.Ss Fu := (.cons (.expr (.call .need (.cons (.and (.cons (.isi (.var 1) .tuple) (.cons (.cmp .gt (.bi .len (.cons (.var 1) .nil)) (.cst (.int 0))) (.cons (.isi (.sub (.var 1) (.cst (.int 0))) .str) .nil)))) .nil))) (.cons (.expr (.call .need (.cons (.cmp .eq (.gget "SIZES_ways" [("cut", 5), ("pick", 3), ("turned", 2), ("over", 2), ("shaped", 2)] (.sub (.var 1) (.cst (.int 0))) (.cst (.int 0))) (.bi .len (.cons (.var 1) .nil))) .nil))) (.cons (.set 2 (.call .led_by (.cons (.var 0) (.cons (.var 1) .nil)))) (.cons (.expr (.call .need (.cons (.call .is_look (.cons (.var 2) .nil)) .nil))) (.cons (.ret (.var 2)) .nil)))))
/-- through_k21 : 0=look 1=way -/
def bthrough_k21 : EV.Ss Fu := (.cons (.expr (.call .need_look (.cons (.var 0) .nil))) (.cons (.ret (.call .led_k21 (.cons (.var 0) (.cons (.var 1) .nil)))) .nil))
/-- Lanswer : 0=_law_way_here 1=_law_program_here 2=_law_look_here 3=_law_some 4=_law_k -/
def bLanswer : EV.Ss Fu := (.cons (.ife (.cmp .eq (.var 0) (.cst (.int 0))) (.cons (.ret (.bin .add (.lst (.cons (.call .run (.cons (.var 1) .nil)) (.cons (.call .held (.cons (.var 1) .nil)) .nil))) (.bi .list (.cons (.call .run_careful (.cons (.var 1) .nil)) .nil)))) .nil) .nil) (.cons (.ife (.cmp .eq (.var 0) (.cst (.int 1))) (.cons (.set 3 (.lc (.nm 4) (.rng 1 (.cons (.bi .len (.cons (.var 1) .nil)) .nil)) (.some (.cmp .eq (.sub (.sub (.var 1) (.var 4)) (.cst (.int 0))) (.cst (.str "copy")))) (.var 4))) (.cons (.ret (.bin .add (.lst (.cons (.call .leaned (.cons (.var 1) .nil)) .nil)) (.lc (.nm 4) (.seq (.var 3)) .none (.call .reason (.cons (.var 1) (.cons (.var 4) .nil)))))) .nil)) .nil) (.cons (.ife (.cmp .eq (.var 0) (.cst (.int 2))) (.cons (.ret (.lst (.cons (.call .written (.cons (.var 1) .nil)) (.cons (.call .read (.cons (.call .written (.cons (.var 1) .nil)) .nil)) (.cons (.call .whole (.cons (.sub (.var 2) (.cst (.int 1))) .nil)) .nil))))) .nil) .nil) (.cons (.ret (.lst (.cons (.call .cells (.cons (.var 2) .nil)) (.cons (.call .twice (.cons (.var 2) .nil)) (.cons (.call .meets (.cons (.var 2) (.cons (.var 2) .nil))) (.cons (.call .plan (.cons (.var 2) (.cons (.var 2) (.cons (.cst (.str "set")) .nil)))) (.cons (.call .through_k21 (.cons (.var 2) (.cons (.tup (.cons (.cst (.str "over")) (.cons (.sub (.var 2) (.cst (.int 1))) .nil))) .nil))) .nil))))))) .nil))))
/-- Lcopied : 0=_law_told 1=_law_one -/
def bLcopied : EV.Ss Fu := (.cons (.ret (.lc (.nm 1) (.seq (.var 0)) .none (.ife (.isi (.var 1) .list) (.bi .list (.cons (.var 1) .nil)) (.var 1)))) .nil)
/- LAW21 not covered: 'reverse' -/
/-- LAW21 : 0=_law_script 1=_law_state 2=_law_cases 3=_law_handed 4=_law_kept 5=_law_turn 6=_law_told 7=_law_one 8=_law_k 9=_law_case 10=_law_way_here -/
def bLAW21 : EV.Ss Fu := (.cons .never (.cons .never (.cons .never (.cons .never (.cons .never (.cons .never .nil))))))
/- Lkind_k22 not covered: stmt Try(body=[Return(value=Call(func=Name(id='_law_work', ctx=Load()), args=[], keyw -/
/-- Lkind_k22 : 0=_law_work -/
def bLkind_k22 : EV.Ss Fu := (.cons .never .nil)
/- Llooks_right not covered: expr Lambda(args=arguments(posonlyargs=[], args=[], kwonlyargs=[], kw_defaults=[], de -/
/-- Llooks_right : 0=_law_state 1=_law_least 2=_law_due 3=_law_i 4=_law_look 5=_law_a 6=_law_b 7=_law_s 8=_law_t 9=_law_side 10=_law_many 11=_law_j -/
def bLlooks_right : EV.Ss Fu := (.cons .never (.cons .never (.cons .never (.cons .never (.cons .never (.cons .never (.cons .never (.cons .never (.cons .never (.cons .never (.cons .never (.cons .never (.cons .never .nil)))))))))))))
/- Lprograms_right not covered: expr Lambda(args=arguments(posonlyargs=[], args=[], kwonlyargs=[], kw_defaults=[], de -/
/-- Lprograms_right : 0=_law_state 1=_law_deeds 2=_law_first 3=_law_rooms 4=_law_side -/
def bLprograms_right : EV.Ss Fu := (.cons .never (.cons .never (.cons .never (.cons .never (.cons .never (.cons .never (.cons .never .nil)))))))
/- LAW22 not covered: expr Lambda(args=arguments(posonlyargs=[], args=[], kwonlyargs=[], kw_defaults=[], de -/
/-- LAW22 : 0=_law_script 1=_law_state 2=_law_turn 3=_law_name -/
def bLAW22 : EV.Ss Fu := (.cons .never (.cons .never (.cons .never .nil)))
def tb : Fu → EV.Fn Fu
  | .is_number => ⟨3, 3, bis_number⟩
  | .are_sides => ⟨1, 2, bare_sides⟩
  | .many_of => ⟨1, 3, bmany_of⟩
  | .is_look => ⟨1, 5, bis_look⟩
  | .need_look => ⟨1, 1, bneed_look⟩
  | .least_of => ⟨1, 3, bleast_of⟩
  | .greatest_of => ⟨1, 3, bgreatest_of⟩
  | .places_of => ⟨1, 6, bplaces_of⟩
  | .cell_of => ⟨2, 4, bcell_of⟩
  | .cells_of => ⟨1, 2, bcells_of⟩
  | .cells => ⟨1, 1, bcells⟩
  | .row_steps => ⟨1, 4, brow_steps⟩
  | .whole_of => ⟨1, 1, bwhole_of⟩
  | .whole => ⟨1, 1, bwhole⟩
  | .need => ⟨1, 1, bneed⟩
  | .cut => ⟨5, 11, bcut⟩
  | .pick => ⟨3, 6, bpick⟩
  | .turned => ⟨2, 3, bturned⟩
  | .may_lie => ⟨2, 4, bmay_lie⟩
  | .over => ⟨2, 10, bover⟩
  | .shaped => ⟨2, 7, bshaped⟩
  | .led => ⟨2, 3, bled⟩
  | .led_by => ⟨2, 3, bled_by⟩
  | .through => ⟨2, 2, bthrough⟩
  | .laid => ⟨2, 2, blaid⟩
  | .first_places => ⟨1, 3, bfirst_places⟩
  | .meets => ⟨2, 4, bmeets⟩
  | .twice => ⟨1, 5, btwice⟩
  | .hinders => ⟨2, 5, bhinders⟩
  | .hinders_back => ⟨3, 7, bhinders_back⟩
  | .plan_of => ⟨3, 8, bplan_of⟩
  | .plan => ⟨3, 3, bplan⟩
  | .Lstart => ⟨1, 3, bLstart⟩
  | .Ldrawn => ⟨2, 4, bLdrawn⟩
  | .Lsame => ⟨2, 3, bLsame⟩
  | .Lkind => ⟨1, 3, bLkind⟩
  | .Lfar => ⟨3, 4, bLfar⟩
  | .Lsides => ⟨2, 5, bLsides⟩
  | .Llook => ⟨1, 9, bLlook⟩
  | .Lbad => ⟨2, 8, bLbad⟩
  | .Lworks => ⟨2, 3, bLworks⟩
  | .LAW01 => ⟨1, 10, bLAW01⟩
  | .Lplaces => ⟨1, 4, bLplaces⟩
  | .Lcell => ⟨2, 4, bLcell⟩
  | .Lcells => ⟨1, 2, bLcells⟩
  | .LAW02 => ⟨1, 11, bLAW02⟩
  | .Lway => ⟨2, 12, bLway⟩
  | .Lother_sides => ⟨2, 7, bLother_sides⟩
  | .Lthrough => ⟨2, 4, bLthrough⟩
  | .Lled => ⟨2, 13, bLled⟩
  | .Lover => ⟨2, 6, bLover⟩
  | .Lshaped => ⟨2, 10, bLshaped⟩
  | .Lodd => ⟨2, 5, bLodd⟩
  | .LAW03 => ⟨1, 8, bLAW03⟩
  | .Lwhence => ⟨4, 7, bLwhence⟩
  | .LAW04 => ⟨1, 11, bLAW04⟩
  | .Lsome_steps => ⟨3, 5, bLsome_steps⟩
  | .LAW05 => ⟨1, 10, bLAW05⟩
  | .LAW06 => ⟨1, 19, bLAW06⟩
  | .Lmeets => ⟨2, 6, bLmeets⟩
  | .Ltwice => ⟨1, 4, bLtwice⟩
  | .LAW07 => ⟨1, 7, bLAW07⟩
  | .Lpair => ⟨1, 8, bLpair⟩
  | .Lplan => ⟨3, 12, bLplan⟩
  | .Lsmall => ⟨1, 5, bLsmall⟩
  | .LAW08 => ⟨1, 6, bLAW08⟩
  | .Ldone => ⟨4, 8, bLdone⟩
  | .LAW09 => ⟨1, 12, bLAW09⟩
  | .need_program => ⟨1, 4, bneed_program⟩
  | .done => ⟨2, 4, bdone⟩
  | .run => ⟨1, 1, brun⟩
  | .run_careful => ⟨1, 2, brun_careful⟩
  | .held => ⟨1, 8, bheld⟩
  | .row_text => ⟨1, 2, brow_text⟩
  | .words_of => ⟨1, 4, bwords_of⟩
  | .written => ⟨1, 2, bwritten⟩
  | .reason_of => ⟨2, 2, breason_of⟩
  | .reason => ⟨2, 2, breason⟩
  | .as_look => ⟨2, 9, bas_look⟩
  | .leaned => ⟨1, 4, bleaned⟩
  | .Lknown => ⟨3, 10, bLknown⟩
  | .Ldeed => ⟨2, 12, bLdeed⟩
  | .Lprogram => ⟨2, 6, bLprogram⟩
  | .Lbad_k10 => ⟨2, 10, bLbad_k10⟩
  | .Lworks_k10 => ⟨1, 2, bLworks_k10⟩
  | .LAW10 => ⟨1, 11, bLAW10⟩
  | .Ldeed_k11 => ⟨2, 12, bLdeed_k11⟩
  | .Lprogram_k11 => ⟨2, 6, bLprogram_k11⟩
  | .Lrun => ⟨1, 13, bLrun⟩
  | .Ldoes => ⟨6, 13, bLdoes⟩
  | .Lhinders => ⟨3, 6, bLhinders⟩
  | .LAW11 => ⟨1, 8, bLAW11⟩
  | .Lways => ⟨2, 6, bLways⟩
  | .LAW12 => ⟨1, 17, bLAW12⟩
  | .LAW13 => ⟨1, 13, bLAW13⟩
  | .Lsteps => ⟨2, 8, bLsteps⟩
  | .Lreason => ⟨2, 16, bLreason⟩
  | .Llaid_over => ⟨1, 5, bLlaid_over⟩
  | .LAW14 => ⟨1, 8, bLAW14⟩
  | .Lfits => ⟨1, 4, bLfits⟩
  | .Llean => ⟨1, 11, bLlean⟩
  | .LAW15 => ⟨1, 8, bLAW15⟩
  | .LAW16 => ⟨1, 11, bLAW16⟩
  | .Lputs => ⟨2, 5, bLputs⟩
  | .Lis => ⟨3, 4, bLis⟩
  | .Ltable_right => ⟨1, 6, bLtable_right⟩
  | .Lmoved_right => ⟨3, 7, bLmoved_right⟩
  | .LAW17 => ⟨1, 12, bLAW17⟩
  | .number_of => ⟨1, 3, bnumber_of⟩
  | .row_of => ⟨1, 3, brow_of⟩
  | .way_of => ⟨1, 4, bway_of⟩
  | .deed_of => ⟨1, 6, bdeed_of⟩
  | .read => ⟨1, 6, bread⟩
  | .Lwords => ⟨1, 5, bLwords⟩
  | .LAW18 => ⟨1, 8, bLAW18⟩
  | .Lnumber => ⟨1, 3, bLnumber⟩
  | .Lpart => ⟨2, 5, bLpart⟩
  | .Lread => ⟨1, 11, bLread⟩
  | .Lspoilt => ⟨2, 12, bLspoilt⟩
  | .LAW19 => ⟨1, 13, bLAW19⟩
  | .Lnamed => ⟨2, 4, bLnamed⟩
  | .Lonly => ⟨2, 5, bLonly⟩
  | .LAW20 => ⟨1, 13, bLAW20⟩
  | .led_k21 => ⟨2, 3, bled_k21⟩
  | .through_k21 => ⟨2, 2, bthrough_k21⟩
  | .Lanswer => ⟨3, 5, bLanswer⟩
  | .Lcopied => ⟨1, 2, bLcopied⟩
  | .LAW21 => ⟨1, 11, bLAW21⟩
  | .Lkind_k22 => ⟨1, 1, bLkind_k22⟩
  | .Llooks_right => ⟨1, 12, bLlooks_right⟩
  | .Lprograms_right => ⟨1, 5, bLprograms_right⟩
  | .LAW22 => ⟨1, 4, bLAW22⟩
end Fu
end LW

set_option maxRecDepth 100000
set_option maxHeartbeats 2000000
namespace LW
open EV PySem PySem.Spec
def tI (p : List Int) : AV := .tup (p.map .int)
theorem is_number_ (d : Nat) (p lo hi : Int) (s : Sto) : call Fu.tb (d + 1) .is_number [.int p, .int lo, .int hi] s = .ok (.v (.bl (decide (lo ≤ p) && decide (p ≤ hi)))) s := by
  rw [call_eq rfl rfl]
  by_cases h : lo ≤ p <;> simp [Fu.bis_number, h]
theorem are_sides_ (d : Nat) (sd : List Int) (s : Sto) (h1 : sd.length ≤ 3) (h2 : ∀ x ∈ sd, 0 ≤ x ∧ x ≤ 8) : call Fu.tb (d + 2) .are_sides [tI sd] s = .ok (.v (.bl true)) s := by
  rw [call_eq rfl rfl]
  have : ¬ (3 < (sd.length : Int)) := by omega
  simp [Fu.bare_sides, tI, this]
  rw [lcL_none]
  · simp
  · intro z hz
    obtain ⟨x, hx, rfl⟩ := List.mem_map.mp hz
    have := h2 x hx
    simp [lcF, is_number_, this.1, this.2]
def pr : List Int → Int
  | [] => 1
  | x :: l => x * pr l
def mulA (a : Int) : AV → Int
  | .int i => a * i
  | _ => a
theorem pr_fold (l : List Int) : ∀ a : Int, (l.map AV.int).foldl mulA a = a * pr l := by
  induction l with
  | nil => intro a; simp [pr]
  | cons x l ih => intro a; simp [pr, ih, mulA, Int.mul_assoc]
theorem many_of_ (d : Nat) (sd : List Int) (s : Sto) (h2 : ∀ x ∈ sd, 0 ≤ x ∧ x ≤ 8) : call Fu.tb (d + 1) .many_of [tI sd] s = .ok (.v (.int (pr sd))) s := by
  rw [call_eq rfl rfl]
  obtain ⟨e', h⟩ := forL_fold (f := loopF (call Fu.tb d) (.nm 2) Fu.bmany_of_1) (fun (a : Int) e => [.v (tI sd), .v (.int a), e]) mulA s (sd.map AV.int) 1 .no (by
    intro x a e hx
    obtain ⟨y, hy, rfl⟩ := List.mem_map.mp hx
    have := h2 y hy
    have : mulOk a y = true := by unfold mulOk; simp; omega
    simp [loopF, Fu.bmany_of_1, this, mulA])
  rw [pr_fold] at h
  simp [Fu.bmany_of, tI, List.replicate] at h ⊢
  simp [h]
/-- the walk over two tuples, a sum of what each pair gives -/
def zs (g : Int → Int → Int) : List Int → List Int → Int
  | x :: l, y :: m => g x y + zs g l m
  | _, _ => 0
theorem zip_ints (g : Int → Int → Int) : ∀ l m : List Int, ∃ r : List Int, ((l.map AV.int).zip (m.map AV.int)).map (fun p => AV.tup [p.1, p.2]) = (l.zip m).map (fun p => AV.tup [.int p.1, .int p.2]) ∧ r = (l.zip m).map (fun p => g p.1 p.2) ∧ r.sum = zs g l m
  | [], m => ⟨[], by simp, by simp, by simp [zs]⟩
  | x :: l, [] => ⟨[], by simp, by simp, by simp [zs]⟩
  | x :: l, y :: m => by
    obtain ⟨r, h1, h2, h3⟩ := zip_ints g l m
    exact ⟨g x y :: r, by simp [h1], by simp [h2], by simp [zs, h3]⟩
def zm (g : Int → Int → Int) (l m : List Int) : List Int := (l.zip m).map fun p => g p.1 p.2
theorem lcZ {C : Cf Fu} {env : EV.Env} {t : Tg} {e : E Fu} {s : Sto} (g : Int → Int → Int) (l m : List Int) (hl : l.length ≤ 4096) (h : ∀ x y, x ∈ l → y ∈ m → lcF C env t .none e (.tup [.int x, .int y]) s = .ok (some (.int (g x y))) s) :
    lcL (lcF C env t .none e) [] (((l.map AV.int).zip (m.map AV.int)).map (fun p => AV.tup [p.1, p.2])) s = .ok ((zm g l m).map AV.int) s := by
  obtain ⟨r, h1, h2, h3⟩ := zip_ints g l m
  rw [h1, lcL_map (fun v => match v with | .tup [.int x, .int y] => .int (g x y) | v => v) _ s _ (by simp; exact szle (by omega))]
  · simp [zm, List.map_map, Function.comp_def]
  · intro v hv
    obtain ⟨p, hp, rfl⟩ := List.mem_map.mp hv
    obtain ⟨q1, q2⟩ := List.of_mem_zip hp
    exact h _ _ q1 q2
@[simp] theorem sum_z (g : Int → Int → Int) (l m : List Int) : (zm g l m).sum = zs g l m := by
  unfold zm
  obtain ⟨r, h1, h2, h3⟩ := zip_ints g l m
  rw [← h2, h3]
def lo1 (side step : Int) : Int := min 0 (step * (side - 1))
def hi1 (side step : Int) : Int := max 0 (step * (side - 1))
def lk (st : Int) (sd sp : List Int) : AV := .tup [.int st, tI sd, tI sp]
theorem least_of_ (d : Nat) (st : Int) (sd sp : List Int) (s : Sto) (h1 : sd.length ≤ 3) (h2 : ∀ x ∈ sd, 0 ≤ x ∧ x ≤ 8) : call Fu.tb (d + 1) .least_of [lk st sd sp] s = .ok (.v (.int (st + zs lo1 sd sp))) s := by
  rw [call_eq rfl rfl]
  simp [Fu.bleast_of, lk, tI]
  rw [lcZ lo1 sd sp (by omega)]
  · simp [sum_z]
  · intro x y hx hy
    have := h2 x hx
    have : mulOk y (x - 1) = true := by unfold mulOk; simp; omega
    simp [lcF, wipeT, setT, rd, this, lo1]
    split <;> omega
theorem greatest_of_ (d : Nat) (st : Int) (sd sp : List Int) (s : Sto) (h1 : sd.length ≤ 3) (h2 : ∀ x ∈ sd, 0 ≤ x ∧ x ≤ 8) : call Fu.tb (d + 1) .greatest_of [lk st sd sp] s = .ok (.v (.int (st + zs hi1 sd sp))) s := by
  rw [call_eq rfl rfl]
  simp [Fu.bgreatest_of, lk, tI]
  rw [lcZ hi1 sd sp (by omega)]
  · simp [sum_z]
  · intro x y hx hy
    have := h2 x hx
    have : mulOk y (x - 1) = true := by unfold mulOk; simp; omega
    simp [lcF, wipeT, setT, rd, this, hi1]
    split <;> omega

theorem cell_of_ (d : Nat) (st : Int) (sd sp p : List Int) (s : Sto) (h1 : p.length ≤ 3) (h2 : ∀ x ∈ p, 0 ≤ x ∧ x ≤ 8) : call Fu.tb (d + 1) .cell_of [lk st sd sp, tI p] s = .ok (.v (.int (st + zs (· * ·) p sp))) s := by
  rw [call_eq rfl rfl]
  simp [Fu.bcell_of, lk, tI]
  rw [lcZ (· * ·) p sp (by omega)]
  · simp [sum_z]
  · intro x y hx hy
    have := h2 x hx
    have : mulOk x y = true := by unfold mulOk; simp; omega
    simp [lcF, wipeT, setT, rd, this]
def rg (a : Int) : List Int := (List.range a.toNat).map fun (k : Nat) => (k : Int)
theorem rg_mem {a k : Int} (h : k ∈ rg a) : 0 ≤ k ∧ k < a := by
  obtain ⟨n, hn, rfl⟩ := List.mem_map.mp h
  have := List.mem_range.mp hn
  omega
theorem rg_len (a : Int) : (rg a).length = a.toNat := by simp [rg]
theorem rngL_rg (a : Int) : rngL 0 a = (rg a).map .int := by
  simp [rngL, rg, Function.comp_def]
theorem rng_rg {a : Int} (h1 : 0 ≤ a) (h : a ≤ 4096) : rngR 1 [.v (.int a)] = some ((rg a).map .int) := by
  rw [rng_one, rngL_rg]
  unfold smallI
  simp
  omega
theorem lcR {f : AV → Sto → Rs (Option AV)} {a : Int} {s : Sto} (g : Int → AV) (h1 : 0 ≤ a) (ha : a ≤ 4096) (h : ∀ k, 0 ≤ k → k < a → f (.int k) s = .ok (some (g k)) s) : lcL f [] ((rg a).map .int) s = .ok ((rg a).map g) s := by
  rw [lcL_map (fun v => match v with | .int k => g k | v => v) _ s _ (by simp; rw [rg_len]; exact szle (by omega))]
  · simp [List.map_map, Function.comp_def]
  · intro v hv
    obtain ⟨k, hk, rfl⟩ := List.mem_map.mp hv
    obtain ⟨q1, q2⟩ := rg_mem hk
    exact h _ q1 q2
def pl : List Int → List (List Int)
  | [] => [[]]
  | a :: r => (rg a).flatMap fun k => (pl r).map (k :: ·)
theorem pl_mem : ∀ (sd : List Int), (∀ x ∈ sd, 0 ≤ x ∧ x ≤ 8) → ∀ p ∈ pl sd, p.length = sd.length ∧ ∀ x ∈ p, 0 ≤ x ∧ x ≤ 8
  | [], _, p, hp => by
    simp [pl] at hp
    subst hp
    simp
  | a :: r, h, p, hp => by
    simp only [pl, List.mem_flatMap, List.mem_map] at hp
    obtain ⟨k, hk, q, hq, rfl⟩ := hp
    obtain ⟨h1, h2⟩ := pl_mem r (fun x hx => h x (List.mem_cons_of_mem _ hx)) q hq
    have ha := h a (List.mem_cons_self ..)
    have hk := rg_mem hk
    refine ⟨by simp [h1], fun x hx => ?_⟩
    rcases List.mem_cons.mp hx with rfl | hx
    · omega
    · exact h2 x hx
def stP (acc : List (List Int)) (a : Int) : List (List Int) := acc.flatMap fun p => (rg a).map fun k => p ++ [k]
theorem stP_len (a : Int) (h : a ≤ 8) : ∀ acc : List (List Int), (stP acc a).length ≤ 8 * acc.length
  | [] => by simp [stP]
  | p :: acc => by
    have ih := stP_len a h acc
    have e : (stP (p :: acc) a).length = a.toNat + (stP acc a).length := by simp [stP, rg_len]
    rw [e, List.length_cons]
    omega
theorem pl_step (a : Int) (r : List Int) (acc : List (List Int)) : (stP acc a).flatMap (fun p => (pl r).map (p ++ ·)) = acc.flatMap fun p => (pl (a :: r)).map (p ++ ·) := by
  simp [stP, pl, List.flatMap_assoc, List.flatMap_map, List.map_flatMap, List.map_map, Function.comp_def]
theorem places_of_ (d : Nat) (sd : List Int) (s : Sto) (h1 : sd.length ≤ 3) (h2 : ∀ x ∈ sd, 0 ≤ x ∧ x ≤ 8) : call Fu.tb (d + 1) .places_of [tI sd] s = .ok (.v (.lst ((pl sd).map tI))) s := by
  rw [call_eq rfl rfl]
  obtain ⟨env', s', e, rfl, r, acc, e2, e4, e5, h3, h4, h5, h6, h7, rfl⟩ := forL_ind (f := loopF (call Fu.tb d) (.nm 2) Fu.bplaces_of_2) (fun l env t => t = s ∧ ∃ (r : List Int) (acc : List (List Int)) (e2 e4 e5 : Sl), l = r.map .int ∧ (∀ x ∈ r, 0 ≤ x ∧ x ≤ 8) ∧ (∀ p ∈ acc, p.length + r.length ≤ 3) ∧ acc.length * 8 ^ r.length ≤ 512 ∧ acc.flatMap (fun p => (pl r).map (p ++ ·)) = pl sd ∧ env = [.v (tI sd), .v (.lst (acc.map tI)), e2, .no, e4, .no]) (by
      rintro x l env s ⟨rfl, r, acc, e2, e4, e5, h3, h4, h5, h6, h7, rfl⟩
      cases r with
      | nil => cases h3
      | cons a r =>
        cases h3
        have ha := h4 a (List.mem_cons_self ..)
        have hal : acc.length ≤ 64 := by
          rw [List.length_cons, Nat.pow_succ] at h6
          have : 1 ≤ 8 ^ r.length := Nat.pow_pos (by decide)
          have : acc.length * 8 ≤ acc.length * (8 ^ r.length * 8) := Nat.mul_le_mul_left _ (by omega)
          omega
        obtain ⟨env', s', e, rfl, r', cur, f4, g3, g4, g5, g6, rfl⟩ := forL_ind (f := loopF (call Fu.tb d) (.nm 4) Fu.bplaces_of_1) (fun l env t => t = s ∧ ∃ (r' cur : List (List Int)) (f4 : Sl), l = r'.map tI ∧ (∀ p ∈ r', p.length ≤ 3) ∧ cur ++ stP r' a = stP acc a ∧ cur.length + 8 * r'.length ≤ 512 ∧ env = [.v (tI sd), .v (.lst (acc.map tI)), .v (.int a), .own (.lst (cur.map tI)), f4, .no]) (by
            rintro x l env s ⟨rfl, r', cur, f4, g3, g4, g5, g6, rfl⟩
            cases r' with
            | nil => cases g3
            | cons p r' =>
              cases g3
              have hp := g4 p (List.mem_cons_self ..)
              refine ⟨[.v (tI sd), .v (.lst (acc.map tI)), .v (.int a), .own (.lst ((cur ++ (rg a).map fun k => p ++ [k]).map tI)), .v (tI p), .no], s, ?_, rfl, r', _, _, rfl, fun q hq => g4 q (List.mem_cons_of_mem _ hq), ?_, ?_, rfl⟩
              · simp [loopF, Fu.bplaces_of_1, rng_rg ha.1 (by omega : a ≤ 4096)]
                rw [lcR (fun k => tI (p ++ [k])) ha.1 (by omega)]
                · have : cur.length + (rg a).length ≤ sizeLine := by
                    rw [rg_len]
                    simp at g6
                    exact szle (by omega)
                  simp [this]
                · intro k _ _
                  have : p.length + 1 ≤ sizeLine := szle (by omega)
                  simp [lcF, tI, this]
              · rw [← g5]
                simp [stP]
              · rw [List.length_append, List.length_map, rg_len]
                simp at g6
                omega) (acc.map tI) [.v (tI sd), .v (.lst (acc.map tI)), .v (.int a), .own (.lst []), e4, .no] s ⟨rfl, acc, [], e4, rfl, fun p hp => by have := h5 p hp; omega, rfl, by simp; omega, rfl⟩
        have hr : r' = [] := by cases r' with | nil => rfl | cons _ _ => cases g3
        subst hr
        simp [stP] at g5
        refine ⟨[.v (tI sd), .v (.lst ((stP acc a).map tI)), .v (.int a), .no, f4, .no], s', ?_, rfl, r, stP acc a, _, _, .no, rfl, fun x hx => h4 x (List.mem_cons_of_mem _ hx), ?_, ?_, ?_, rfl⟩
        · simp [loopF, Fu.bplaces_of_2, e]
          rw [g5]
          rfl
        · intro p hp
          simp only [stP, List.mem_flatMap, List.mem_map] at hp
          obtain ⟨q, hq, k, hk, rfl⟩ := hp
          have := h5 q hq
          simp at this ⊢
          omega
        · have := stP_len a ha.2 acc
          rw [List.length_cons, Nat.pow_succ] at h6
          calc (stP acc a).length * 8 ^ r.length ≤ (8 * acc.length) * 8 ^ r.length := Nat.mul_le_mul_right _ this
            _ = acc.length * (8 ^ r.length * 8) := by rw [Nat.mul_comm 8 acc.length, Nat.mul_assoc, Nat.mul_comm 8]
            _ ≤ 512 := h6
        · rw [pl_step, h7]) (sd.map .int) [.v (tI sd), .v (.lst [.tup []]), .no, .no, .no, .no] s ⟨rfl, sd, [[]], .no, .no, .no, rfl, h2, by simpa using h1, by
          have : (8 : Nat) ^ sd.length ≤ 8 ^ 3 := Nat.pow_le_pow_right (by decide) h1
          simpa using this, by simp, rfl⟩
  have hr : r = [] := by cases r with | nil => rfl | cons _ _ => cases h3
  subst hr
  simp [pl] at h7
  simp [Fu.bplaces_of, tI, List.replicate] at e ⊢
  simp [e, h7]
end LW

set_option maxRecDepth 100000
set_option maxHeartbeats 2000000
namespace LW
open EV PySem PySem.Spec
structure Lk (st : Int) (sd sp : List Int) : Prop where
  h1 : sd.length ≤ 3
  h2 : ∀ x ∈ sd, 0 ≤ x ∧ x ≤ 8
  h3 : sp.length = sd.length
  h4 : ∀ x ∈ sp, -512 ≤ x ∧ x ≤ 512
  h5 : 0 ≤ st ∧ st ≤ 511
  h6 : pr sd = 0 ∨ (0 ≤ st + zs lo1 sd sp ∧ st + zs lo1 sd sp ≤ st + zs hi1 sd sp ∧ st + zs hi1 sd sp < 512)
theorem is_look_ (d : Nat) {st : Int} {sd sp : List Int} (h : Lk st sd sp) (s : Sto) : call Fu.tb (d + 3) .is_look [lk st sd sp] s = .ok (.v (.bl true)) s := by
  rw [call_eq rfl rfl]
  have e1 := is_number_ (d + 1) st 0 511 s
  have e2 := are_sides_ d sd s h.h1 h.h2
  have e3 := many_of_ (d + 1) sd s h.h2
  have e4 := least_of_ (d + 1) st sd sp s h.h1 h.h2
  have e5 := greatest_of_ (d + 1) st sd sp s h.h1 h.h2
  have q1 := h.h5.1
  have q2 := h.h5.2
  have e6 : lcL (lcF (call Fu.tb (d + 2)) [Sl.v (lk st sd sp), Sl.v (.int st), Sl.v (tI sd), Sl.v (tI sp), Sl.no] (.nm 4) (.some (.not (.call .is_number (.cons (.var 4) (.cons (.bin .sub (.cst (.int 0)) (.glb "MOST_CELLS" (.int 512))) (.cons (.glb "MOST_CELLS" (.int 512)) .nil)))))) (.var 4)) [] (sp.map .int) s = .ok [] s := by
    refine lcL_none _ _ _ fun z hz => ?_
    obtain ⟨x, hx, rfl⟩ := List.mem_map.mp hz
    have := h.h4 x hx
    simp [lcF, is_number_, this.1, this.2]
  have e3' := h.h3
  unfold lk tI at *
  simp [Fu.bis_look, e1, e2, q1, q2, e3', List.zip, List.zipWith, e6, e3]
  by_cases hz : pr sd = 0
  · simp [hz]
  · have h6 := h.h6.resolve_left hz
    have h7 : zs lo1 sd sp ≤ zs hi1 sd sp := by omega
    simp [hz, e4, e5, h6.1, h6.2.2, h7]
theorem need_look_ (d : Nat) {st : Int} {sd sp : List Int} (h : Lk st sd sp) (s : Sto) : call Fu.tb (d + 4) .need_look [lk st sd sp] s = .ok (.v .non) s := by
  rw [call_eq rfl rfl]
  simp [Fu.bneed_look, is_look_ d h s]
theorem flat_len {A B : Type} (f : A → List B) (n : Nat) : ∀ l : List A, (∀ x ∈ l, (f x).length ≤ n) → (l.flatMap f).length ≤ l.length * n
  | [], _ => by simp
  | x :: l, h => by
    have := flat_len f n l fun y hy => h y (List.mem_cons_of_mem _ hy)
    have := h x (List.mem_cons_self ..)
    rw [List.flatMap_cons, List.length_append, List.length_cons, Nat.succ_mul]
    omega
theorem pl_len : ∀ sd : List Int, (∀ x ∈ sd, 0 ≤ x ∧ x ≤ 8) → (pl sd).length ≤ 8 ^ sd.length
  | [], _ => by simp [pl]
  | a :: r, h => by
    have ih := pl_len r fun x hx => h x (List.mem_cons_of_mem _ hx)
    have := flat_len (fun k => (pl r).map (k :: ·)) (8 ^ r.length) (rg a) fun x _ => by simpa using ih
    have ha := h a (List.mem_cons_self ..)
    rw [rg_len] at this
    have : a.toNat * 8 ^ r.length ≤ 8 * 8 ^ r.length := Nat.mul_le_mul_right _ (by omega)
    rw [List.length_cons, Nat.pow_succ, Nat.mul_comm _ 8]
    unfold pl
    omega
theorem pl_512 {sd : List Int} (h1 : sd.length ≤ 3) (h2 : ∀ x ∈ sd, 0 ≤ x ∧ x ≤ 8) : (pl sd).length ≤ 512 :=
  Nat.le_trans (pl_len sd h2) (Nat.le_trans (Nat.pow_le_pow_right (by decide) h1) (by decide))
/-- the cells of a look -/
def cz (st : Int) (sd sp : List Int) : List AV := (pl sd).map fun p => .int (st + zs (· * ·) p sp)
theorem cells_of_ (d : Nat) {st : Int} {sd sp : List Int} (h : Lk st sd sp) (s : Sto) : call Fu.tb (d + 2) .cells_of [lk st sd sp] s = .ok (.tl (.lst (cz st sd sp))) s := by
  rw [call_eq rfl rfl]
  have e1 := places_of_ d sd s h.h1 h.h2
  have e2 : L2.atI [AV.int st, tI sd, tI sp] 1 = some (tI sd) := at1 _ _ _
  simp [Fu.bcells_of]
  have e3 : subR s (.v (lk st sd sp)) (.v (.int 1)) = some (.v (tI sd)) := by simp [lk]
  simp [e3, e1]
  rw [lcL_map (fun v => match v with | .tup l => .int (match intsOf l with | some p => st + zs (· * ·) p sp | none => 0) | v => v)]
  · simp [cz, tI, Function.comp_def]
  · intro v hv
    obtain ⟨p, hp, rfl⟩ := List.mem_map.mp hv
    obtain ⟨q1, q2⟩ := pl_mem sd h.h2 p hp
    have := cell_of_ d st sd sp p s (by rw [q1]; exact h.h1) q2
    unfold tI at this ⊢
    simp [lcF, this]
  · rw [List.length_map]
    exact szle (Nat.le_trans (pl_512 h.h1 h.h2) (by decide))
theorem cells_ (d : Nat) {st : Int} {sd sp : List Int} (h : Lk st sd sp) (s : Sto) : call Fu.tb (d + 5) .cells [lk st sd sp] s = .ok (.tl (.lst (cz st sd sp))) s := by
  rw [call_eq rfl rfl]
  have := cells_of_ (d + 2) h s
  simp [Fu.bcells, need_look_ d h s, this]
/-- row steps -/
def rs : List Int → List Int
  | [] => []
  | _ :: r => pr r :: rs r
theorem rs_len : ∀ l : List Int, (rs l).length = l.length
  | [] => rfl
  | _ :: r => by simp [rs, rs_len r]
theorem row_steps_ (d : Nat) (sd : List Int) (s : Sto) (h1 : sd.length ≤ 3) (h2 : ∀ x ∈ sd, 0 ≤ x ∧ x ≤ 8) : call Fu.tb (d + 1) .row_steps [tI sd] s = .ok (.v (tI (rs sd))) s := by
  rw [call_eq rfl rfl]
  obtain ⟨env', s', e, rfl, t, q, e3, h3, h4, rfl⟩ := forL_ind (f := loopF (call Fu.tb d) (.nm 3) Fu.brow_steps_1) (fun l env u => u = s ∧ ∃ (t q : List Int) (e3 : Sl), l = t.map .int ∧ t.reverse ++ q = sd ∧ env = [.v (tI sd), .v (tI (rs q)), .v (.int (pr q)), e3]) (by
    rintro x l env s ⟨rfl, t, q, e3, h3, h4, rfl⟩
    cases t with
    | nil => cases h3
    | cons a t =>
      cases h3
      have ha := h2 a (by rw [← h4]; simp)
      have hm : mulOk (pr q) a = true := by unfold mulOk; simp; omega
      have hl : 1 + q.length ≤ sizeLine := szle (by have := congrArg List.length h4; simp at this; omega)
      refine ⟨[.v (tI sd), .v (tI (rs (a :: q))), .v (.int (pr (a :: q))), .v (.int a)], s, ?_, rfl, t, a :: q, _, rfl, by rw [← h4]; simp, rfl⟩
      simp [loopF, Fu.brow_steps_1, tI, hm, rs, pr, rs_len, hl, Int.mul_comm]) (sd.reverse.map .int) [.v (tI sd), .v (.tup []), .v (.int 1), .no] s ⟨rfl, sd.reverse, [], .no, rfl, by simp, rfl⟩
  have ht : t = [] := by cases t with | nil => rfl | cons _ _ => cases h3
  subst ht
  simp at h4
  subst h4
  simp [Fu.brow_steps, tI, List.replicate] at e ⊢
  simp [e]
theorem whole_of_ (d : Nat) (sd : List Int) (s : Sto) (h1 : sd.length ≤ 3) (h2 : ∀ x ∈ sd, 0 ≤ x ∧ x ≤ 8) : call Fu.tb (d + 2) .whole_of [tI sd] s = .ok (.v (lk 0 sd (rs sd))) s := by
  rw [call_eq rfl rfl]
  simp [Fu.bwhole_of, row_steps_ d sd s h1 h2, lk]
theorem whole_ (d : Nat) (sd : List Int) (s : Sto) (h1 : sd.length ≤ 3) (h2 : ∀ x ∈ sd, 0 ≤ x ∧ x ≤ 8) : call Fu.tb (d + 3) .whole [tI sd] s = .ok (.v (lk 0 sd (rs sd))) s := by
  rw [call_eq rfl rfl]
  simp [Fu.bwhole, are_sides_ d sd s h1 h2, whole_of_ d sd s h1 h2]
end LW

set_option maxRecDepth 100000
set_option maxHeartbeats 2000000
namespace LW
open EV PySem PySem.Spec
theorem cut_tail {A : Type} (x : A) (l : List A) : cutA (x :: l) (some 1) none = l := by
  unfold cutA HT.sIx
  have : min (Int.toNat 1) (x :: l).length = 1 := by simp
  simp [this]
theorem cut_drop {A : Type} (l : List A) (n : Nat) (h : n ≤ l.length) : cutA l (some (n : Int)) none = l.drop n := by
  unfold cutA HT.sIx
  have : ¬ ((n : Int) < 0) := by omega
  simp [this, Nat.min_eq_left h]
  exact List.take_of_length_le (by simp)
theorem toDs_ints (f : Nat → Option PyData) : ∀ l : List Int, toDs f (l.map .int) = some (l.map .int)
  | [] => rfl
  | x :: l => by simp [toDs, toD, toDs_ints f l]
theorem canLay_ints : ∀ l : List Int, PyData.canLayAll0 (l.map .int) = true
  | [] => by simp [PyData.canLayAll0]
  | x :: l => by simp [PyData.canLayAll0, PyData.canLay0, canLay_ints l]
theorem depth_ints : ∀ l : List Int, PyData.depthAll (l.map .int) ≤ 1
  | [] => by simp [PyData.depthAll]
  | x :: l => by
    have := depth_ints l
    simp [PyData.depthAll, PyData.depth]
    try omega
theorem shaped_ints (l : List Int) : SeqAt.shaped (.tuple (l.map .int)) = true := by
  have := depth_ints l
  unfold SeqAt.shaped
  simp [PyData.canLay0, canLay_ints, PyData.depth]
  omega
theorem Lcell_ (d : Nat) {st : Int} {sd sp p : List Int} (s : Sto) (h1 : p.length ≤ 3) (h2 : ∀ x ∈ p, 0 ≤ x ∧ x ≤ 8) (h3 : p.length = sp.length) : call Fu.tb (d + 1) .Lcell [lk st sd sp, tI p] s = .ok (.v (.int (st + zs (· * ·) p sp))) s := by
  rw [call_eq rfl rfl]
  obtain ⟨env', s', e, rfl, n, m, acc, e3, h4, h5, h6, rfl⟩ := forL_ind (f := loopF (call Fu.tb d) (.nm 3) Fu.bLcell_1) (fun l env u => u = s ∧ ∃ (n m : Nat) (acc : Int) (e3 : Sl), l = ((List.range' n m).map fun (k : Nat) => (k : Int)).map .int ∧ n + m = p.length ∧ acc + zs (· * ·) (p.drop n) (sp.drop n) = st + zs (· * ·) p sp ∧ env = [.v (lk st sd sp), .v (tI p), .v (.int acc), e3]) (by
    rintro x l env s ⟨rfl, n, m, acc, e3, h4, h5, h6, rfl⟩
    cases m with
    | zero => cases h4
    | succ m =>
      rw [List.range'_succ] at h4
      cases h4
      have hn : n < p.length := by omega
      have hn' : n < sp.length := by omega
      have ha := h2 p[n] (List.getElem_mem hn)
      have hm : mulOk p[n] sp[n] = true := by unfold mulOk; simp; omega
      have a1 : L2.atI (p.map AV.int) (n : Int) = some (.int p[n]) := at_nat rfl (by simp [hn])
      have a2 : L2.atI (sp.map AV.int) (n : Int) = some (.int sp[n]) := at_nat rfl (by simp [hn'])
      refine ⟨[.v (lk st sd sp), .v (tI p), .v (.int (acc + p[n] * sp[n])), .v (.int n)], s, ?_, rfl, n + 1, m, _, _, rfl, by omega, ?_, rfl⟩
      · simp [loopF, Fu.bLcell_1, lk, tI, a1, a2, hm]
      · rw [← h6, List.drop_eq_getElem_cons hn, List.drop_eq_getElem_cons hn', zs, Int.add_assoc]) ((rg p.length).map .int) [.v (lk st sd sp), .v (tI p), .v (.int st), .no] s ⟨rfl, 0, p.length, st, .no, by simp [rg, List.range_eq_range'], by omega, by simp, rfl⟩
  have hm : m = 0 := by cases m with | zero => rfl | succ m => rw [List.range'_succ] at h4; cases h4
  subst hm
  have hn : n = p.length := by omega
  subst hn
  simp [zs] at h6
  have hz : acc = st + zs (· * ·) p sp := by
    rw [← h6]
  have hr := rng_rg (a := (p.length : Int)) (by omega) (by omega)
  simp [Fu.bLcell, lk, tI, List.replicate, hr] at e ⊢
  simp [e, hz]
theorem Lplaces_ : ∀ (sd : List Int) (d : Nat) (s : Sto), sd.length ≤ 3 → (∀ x ∈ sd, 0 ≤ x ∧ x ≤ 8) → call Fu.tb (d + sd.length + 1) .Lplaces [tI sd] s = .ok (.tl (.lst ((pl sd).map tI))) s
  | [], d, s, h1, h2 => by
    rw [call_eq rfl rfl]
    have : eqR s (.v (.tup [])) (.v (.tup [])) = some true := rfl
    simp [Fu.bLplaces, tI, pl, this]
  | a :: r, d, s, h1, h2 => by
    have ih := Lplaces_ r d s (by simp at h1; omega) fun x hx => h2 x (List.mem_cons_of_mem _ hx)
    rw [call_eq rfl rfl]
    have ha := h2 a (List.mem_cons_self ..)
    have hq : eqR s (.v (tI (a :: r))) (.v (.tup [])) = some false := by
      have e1 : toD (locD s 4) (tI (a :: r)) = some (.tuple ((a :: r).map .int)) := by
        unfold tI
        rw [toD, toDs_ints]
        rfl
      have e2 := shaped_ints (a :: r)
      have e3 : SeqAt.shaped (.tuple []) = true := rfl
      have e4 : toD (locD s 4) (.tup []) = some (.tuple []) := rfl
      unfold eqR dat
      simp only [tI] at e1 ⊢
      rw [e1, e4]
      simp only [e2, e3, Bool.and_true, if_true]
      rfl
    have hr := rng_rg (a := a) (by omega) (by omega)
    have hp : (pl r).length ≤ 64 := by
      have := pl_len r fun x hx => h2 x (List.mem_cons_of_mem _ hx)
      have : (8 : Nat) ^ r.length ≤ 8 ^ 2 := Nat.pow_le_pow_right (by decide) (by simp at h1; omega)
      omega
    obtain ⟨env', s', e, rfl, t, cur, e2, e3, h3, h4, h5, rfl⟩ := forL_ind (f := loopF (call Fu.tb (d + (a :: r).length)) (.nm 2) Fu.bLplaces_1) (fun l env u => u = s ∧ ∃ (t : List Int) (cur : List (List Int)) (e2 e3 : Sl), l = t.map .int ∧ cur ++ t.flatMap (fun k => (pl r).map (k :: ·)) = pl (a :: r) ∧ cur.length + 64 * t.length ≤ 512 ∧ env = [.v (tI (a :: r)), .own (.lst (cur.map tI)), e2, .no]) (by
      rintro x l env s ⟨rfl, t, cur, e2, e3, h3, h4, h5, rfl⟩
      cases t with
      | nil => cases h3
      | cons k t =>
        cases h3
        refine ⟨[.v (tI (a :: r)), .own (.lst ((cur ++ (pl r).map (k :: ·)).map tI)), .v (.int k), .no], s, ?_, rfl, t, _, _, .no, rfl, by rw [← h4]; simp, ?_, rfl⟩
        · have hc : cutA ((a :: r).map AV.int) (some 1) none = r.map AV.int := cut_tail _ _
          simp at hc
          have ih' : call Fu.tb (d + (r.length + 1)) .Lplaces [.tup (r.map .int)] s = .ok (.tl (.lst ((pl r).map tI))) s := ih
          simp [loopF, Fu.bLplaces_1, tI, hc, ih']
          rw [lcL_map (fun v => match v with | .tup l => .tup (.int k :: l) | v => v)]
          · have : cur.length + (pl r).length ≤ sizeLine := szle (by simp at h5; omega)
            simp [this, tI, Function.comp_def]
          · intro v hv
            obtain ⟨p, hp, rfl⟩ := List.mem_map.mp hv
            have q1 := (pl_mem r (fun x hx => h2 x (List.mem_cons_of_mem _ hx)) p hp).1
            have : 1 + p.length ≤ sizeLine := szle (by simp at h1; omega)
            simp [lcF, tI, this]
          · rw [List.length_map]
            exact szle (by omega)
        · rw [List.length_append, List.length_map]
          simp at h5
          omega) ((rg a).map .int) [.v (tI (a :: r)), .own (.lst []), .no, .no] s ⟨rfl, rg a, [], .no, .no, rfl, rfl, by rw [rg_len]; simp; omega, rfl⟩
    have ht : t = [] := by cases t with | nil => rfl | cons _ _ => cases h3
    subst ht
    simp at h4
    subst h4
    have a1 : subR s' (.v (tI (a :: r))) (.v (.int 0)) = some (.v (.int a)) := by simp [tI]
    simp [Fu.bLplaces, hq, hr, List.replicate, a1] at e ⊢
    simp [e]
theorem Lcells_ (d : Nat) {st : Int} {sd sp : List Int} (h : Lk st sd sp) (s : Sto) : call Fu.tb (d + 5) .Lcells [lk st sd sp] s = .ok (.tl (.lst (cz st sd sp))) s := by
  rw [call_eq rfl rfl]
  have hl := h.h1
  have e1 := Lplaces_ sd (d + 4 - 1 - sd.length) s h.h1 h.h2
  rw [show d + 4 - 1 - sd.length + sd.length + 1 = d + 4 by omega] at e1
  have e3 : subR s (.v (lk st sd sp)) (.v (.int 1)) = some (.v (tI sd)) := by simp [lk]
  simp [Fu.bLcells, e3, e1]
  rw [lcL_map (fun v => match v with | .tup l => .int (match intsOf l with | some p => st + zs (· * ·) p sp | none => 0) | v => v)]
  · simp [cz, tI, Function.comp_def]
  · intro v hv
    obtain ⟨p, hp, rfl⟩ := List.mem_map.mp hv
    obtain ⟨q1, q2⟩ := pl_mem sd h.h2 p hp
    have := Lcell_ (d + 3) (st := st) (sd := sd) (sp := sp) s (by rw [q1]; exact h.h1) q2 (by rw [q1, h.h3])
    unfold tI at this ⊢
    simp [lcF, this]
  · rw [List.length_map]
    exact szle (Nat.le_trans (pl_512 h.h1 h.h2) (by decide))
end LW

set_option maxRecDepth 100000
set_option maxHeartbeats 2000000
namespace LW
open EV PySem PySem.Spec
theorem at_ints (l : List Int) (x : Int) (h0 : 0 ≤ x) (h1 : x < l.length) : ∃ y ∈ l, L2.atI (l.map AV.int) x = some (AV.int y) := by
  have hx : x.toNat < l.length := by omega
  exact ⟨l[x.toNat], List.getElem_mem hx, at_nat (n := x.toNat) (by omega) (by simp [hx])⟩
variable {ns : List Int} {rest : List Ob}
theorem Ldrawn_ (d : Nat) {s : Sto} (hs : Dr ns rest s) (many : Int) (h0 : 0 < many) (h1 : many < 1073741824) :
    ∃ x s', call Fu.tb (d + 1) .Ldrawn [.loc 0, .int many] s = .ok (.v (.int x)) s' ∧ 0 ≤ x ∧ x < many ∧ Dr ns rest s' := drawn_ rfl d hs many h0 h1
theorem Lsides_ (d : Nat) {s : Sto} (hs : Dr ns rest s) (most : Int) (h0 : 0 < most) (h1 : most ≤ 8) :
    ∃ sd s', call Fu.tb (d + 2) .Lsides [.loc 0, .int most] s = .ok (.v (tI sd)) s' ∧ sd.length ≤ 3 ∧ (∀ x ∈ sd, 0 ≤ x ∧ x ≤ 8) ∧ Dr ns rest s' := by
  rw [call_eq rfl rfl]
  obtain ⟨k, s1, d1, hk0, hk1, D1⟩ := Ldrawn_ d hs 4 (by decide) (by decide)
  have hr := rng_rg (a := k) (by omega) (by omega)
  obtain ⟨env', s', e, t, w, e3, e4, h3, h4, h5, D, rfl⟩ := forL_ind (f := loopF (call Fu.tb (d + 1)) (.nm 3) Fu.bLsides_1) (fun l env u => ∃ (t w : List Int) (e3 e4 : Sl), l = t.map .int ∧ w.length + t.length ≤ 3 ∧ (∀ x ∈ w, 0 ≤ x ∧ x ≤ 8) ∧ Dr ns rest u ∧ env = [.v (.loc 0), .v (.int most), .v (tI w), e3, e4]) (by
    rintro x l env s ⟨t, w, e3, e4, h3, h4, h5, D, rfl⟩
    cases t with
    | nil => cases h3
    | cons k t =>
      cases h3
      obtain ⟨x1, s1, d1, a1, b1, D1⟩ := Ldrawn_ d D most h0 (by omega)
      obtain ⟨x2, s2, d2, a2, b2, D2⟩ := Ldrawn_ d D1 16 (by decide) (by decide)
      obtain ⟨y, hy, e⟩ := at_ints [1 + x1, 1 + x1, 1 + x1, 0] (x2 / 5) (by omega) (by simp; omega)
      simp only [List.map_cons, List.map_nil] at e
      have hl : w.length + 1 ≤ sizeLine := szle (by omega)
      refine ⟨[.v (.loc 0), .v (.int most), .v (tI (w ++ [y])), .v (.int k), .v (.int (1 + x1))], s2, ?_, t, w ++ [y], _, _, rfl, by simp at h4 ⊢; omega, ?_, D2, rfl⟩
      · simp [loopF, Fu.bLsides_1, d1, d2, e, tI, hl]
      · intro z hz
        rcases List.mem_append.mp hz with hz | hz
        · exact h5 z hz
        · simp at hz hy
          omega) ((rg k).map .int) [.v (.loc 0), .v (.int most), .v (.tup []), .no, .no] s1 ⟨rg k, [], .no, .no, rfl, by rw [rg_len]; simp; omega, by simp, D1, rfl⟩
  have ht : t = [] := by cases t with | nil => rfl | cons _ _ => cases h3
  subst ht
  refine ⟨w, s', ?_, by simpa using h4, h5, D⟩
  simp [Fu.bLsides, d1, hr, List.replicate, e]
/-- a sum over the sides that are not 0 -/
def z2 (g : Int → Int → Int) : Int → Int → Int := fun a b => if 0 < a then g a b else 0
theorem lcK {f : AV → Sto → Rs (Option AV)} (g : Int → Int → Int) {sd sp : List Int} {s : Sto} (hl : sp.length = sd.length) (h : ∀ (n : Nat) (h1 : n < sd.length) (h2 : n < sp.length), f (.int n) s = .ok (if 0 < sd[n] then some (.int (g sd[n] sp[n])) else none) s) :
    ∀ (m n : Nat) (acc : List AV), n + m = sd.length → acc.length + m ≤ 4096 → ∃ out : List Int, lcL f acc (((List.range' n m).map fun (k : Nat) => (k : Int)).map .int) s = .ok (acc ++ out.map .int) s ∧ out.sum = zs (z2 g) (sd.drop n) (sp.drop n)
  | 0, n, acc, hn, _ => ⟨[], by simp [lcL], by
    have : sd.drop n = [] := by simp; omega
    simp [this, zs]⟩
  | m + 1, n, acc, hn, ha => by
    have h1 : n < sd.length := by omega
    have h2 : n < sp.length := by omega
    have e := h n h1 h2
    rw [List.drop_eq_getElem_cons h1, List.drop_eq_getElem_cons h2]
    by_cases hp : 0 < sd[n]
    · obtain ⟨out, q1, q2⟩ := lcK g hl h m (n + 1) (acc ++ [.int (g sd[n] sp[n])]) (by omega) (by simp; omega)
      refine ⟨g sd[n] sp[n] :: out, ?_, by simp [zs, z2, hp, q2]⟩
      have : acc.length < sizeLine := Nat.lt_of_lt_of_le (by omega : acc.length < 4096) (by decide)
      rw [List.range'_succ, List.map_cons, List.map_cons, lcL, e]
      simp only [hp, if_true, Rs.bind_ok, this]
      rw [q1]
      simp
    · obtain ⟨out, q1, q2⟩ := lcK g hl h m (n + 1) acc (by omega) (by omega)
      refine ⟨out, ?_, by simp [zs, z2, hp, q2]⟩
      rw [List.range'_succ, List.map_cons, List.map_cons, lcL, e]
      simp only [hp, if_false, Rs.bind_ok]
      exact q1
theorem zs_lo (l m : List Int) : zs (z2 lo1) l m ≤ 0 := by
  induction l generalizing m with
  | nil => simp [zs]
  | cons a l ih =>
    cases m with
    | nil => simp [zs]
    | cons b m =>
      have := ih m
      simp only [zs, z2, lo1]
      split <;> omega
theorem zs_hi (l m : List Int) : 0 ≤ zs (z2 hi1) l m := by
  induction l generalizing m with
  | nil => simp [zs]
  | cons a l ih =>
    cases m with
    | nil => simp [zs]
    | cons b m =>
      have := ih m
      simp only [zs, z2, hi1]
      split <;> omega
theorem pr_zs (g : Int → Int → Int) : ∀ (l m : List Int), (∀ x ∈ l, 0 ≤ x) → pr l ≠ 0 → zs (z2 g) l m = zs g l m
  | [], m, _, _ => by simp [zs]
  | a :: l, [], _, _ => by simp [zs]
  | a :: l, b :: m, h, hz => by
    have ha : a ≠ 0 := fun e => hz (by simp [pr, e])
    have hl : pr l ≠ 0 := fun e => hz (by simp [pr, e])
    have := h a (List.mem_cons_self ..)
    have ih := pr_zs g l m (fun x hx => h x (List.mem_cons_of_mem _ hx)) hl
    have hp : 0 < a := by omega
    simp [zs, z2, hp]
    exact ih
theorem cut_one {A : Type} (l : List A) : cutA l none (some 1) = l.take 1 := by
  unfold cutA HT.sIx
  cases l <;> simp
end LW

set_option maxRecDepth 100000
set_option maxHeartbeats 2000000
namespace LW
open EV PySem PySem.Spec
variable {ns : List Int} {rest : List Ob}
/-- what a turn of _law_look's walk leaves -/
theorem look_turn (d : Nat) (sd t w : List Int) (a st : Int) (e4 e7 : Sl) {s : Sto} (D : Dr ns rest s) (h1 : w.length + 1 + t.length ≤ 3) (hw : ∀ x ∈ w, -512 ≤ x ∧ x ≤ 512) (ha : 0 ≤ a ∧ a ≤ 8) (hst : 1 ≤ st) (hst2 : st ≤ 64) :
    ∃ y e7' s', loopF (call Fu.tb (d + 2)) (.nm 4) Fu.bLlook_1 [.v (.loc 0), .v (tI sd), .v (tI w), .v (.int st), e4, .no, .no, e7, .no] (.int a) s = .ok (.nx, [.v (.loc 0), .v (tI sd), .v (tI (y :: w)), .v (.int (st * max 1 a)), .v (.int a), .no, .no, e7', .no]) s' ∧ -512 ≤ y ∧ y ≤ 512 ∧ Dr ns rest s' := by
  obtain ⟨x1, s1, d1, a1, b1, D1⟩ := Ldrawn_ (d + 1) D 9 (by decide) (by decide)
  obtain ⟨x2, s2, d2, a2, b2, D2⟩ := Ldrawn_ (d + 1) D1 41 (by decide) (by decide)
  have hl : 1 + w.length ≤ sizeLine := szle (by omega)
  have hm1 : mulOk 2 st = true := by unfold mulOk; simp
  have hm2 : ∀ b : Int, b ≤ 8 → 1 ≤ b → mulOk st b = true := fun b _ _ => by unfold mulOk; simp; omega
  have hmax : (if 1 < a then a else 1) = max 1 a := by omega
  have hm3 : mulOk st (max 1 a) = true := hm2 _ (by omega) (by omega)
  by_cases h3 : a < 3
  · obtain ⟨x3, s3, d3, a3, b3, D3⟩ := Ldrawn_ (d + 1) D2 3 (by decide) (by decide)
    by_cases h4 : x3 = 2
    · subst h4
      obtain ⟨x4, s4, d4, a4, b4, D4⟩ := Ldrawn_ (d + 1) D3 1025 (by decide) (by decide)
      obtain ⟨x5, s5, d5, a5, b5, D5⟩ := Ldrawn_ (d + 1) D4 7 (by decide) (by decide)
      obtain ⟨y, hy, e⟩ := at_ints [st, st, -st, x1 - 4, x2 - 20, 2 * st, x4 - 512] x5 (by omega) (by simp; omega)
      simp only [List.map_cons, List.map_nil] at e
      refine ⟨y, .own (.lst [.int st, .int st, .int (-st), .int (x1 - 4), .int (x2 - 20), .int (2 * st), .int (x4 - 512)]), s5, ?_, ?_, ?_, D5⟩
      · simp [loopF, Fu.bLlook_1, d1, d2, d3, d4, d5, h3, hm1, L2.ixN, e, tI, hl, hmax, hm3, rd]
      · simp at hy; omega
      · simp at hy; omega
    · obtain ⟨x5, s5, d5, a5, b5, D5⟩ := Ldrawn_ (d + 1) D3 7 (by decide) (by decide)
      obtain ⟨y, hy, e⟩ := at_ints [st, st, -st, x1 - 4, x2 - 20, 2 * st, 0] x5 (by omega) (by simp; omega)
      simp only [List.map_cons, List.map_nil] at e
      refine ⟨y, .own (.lst [.int st, .int st, .int (-st), .int (x1 - 4), .int (x2 - 20), .int (2 * st), .int 0]), s5, ?_, ?_, ?_, D5⟩
      · simp [loopF, Fu.bLlook_1, d1, d2, d3, d5, h3, h4, hm1, e, tI, hl, hmax, hm3, rd]
      · simp at hy; omega
      · simp at hy; omega
  · obtain ⟨x5, s5, d5, a5, b5, D5⟩ := Ldrawn_ (d + 1) D2 7 (by decide) (by decide)
    obtain ⟨y, hy, e⟩ := at_ints [st, st, -st, x1 - 4, x2 - 20, 2 * st, 0] x5 (by omega) (by simp; omega)
    simp only [List.map_cons, List.map_nil] at e
    refine ⟨y, .own (.lst [.int st, .int st, .int (-st), .int (x1 - 4), .int (x2 - 20), .int (2 * st), .int 0]), s5, ?_, ?_, ?_, D5⟩
    · simp [loopF, Fu.bLlook_1, d1, d2, d5, h3, hm1, e, tI, hl, hmax, hm3, rd]
    · simp at hy; omega
    · simp at hy; omega
theorem Llook_ (d : Nat) {s : Sto} (hs : Dr ns rest s) : ∃ st sd sp s', call Fu.tb (d + 3) .Llook [.loc 0] s = .ok (.v (lk st sd sp)) s' ∧ Lk st sd sp ∧ Dr ns rest s' := by
  rw [call_eq rfl rfl]
  obtain ⟨x0, s0, d0, a0, b0, D0⟩ := Ldrawn_ (d + 1) hs 4 (by decide) (by decide)
  obtain ⟨y0, hy0, e0⟩ := at_ints [3, 3, 5, 8] x0 (by omega) (by simp; omega)
  simp only [List.map_cons, List.map_nil] at e0
  obtain ⟨sd, s1, d1, g1, g2, D1⟩ := Lsides_ d D0 y0 (by simp at hy0; omega) (by simp at hy0; omega)
  obtain ⟨env', s', e, t, w, st, e4, e7, h3, h4, h5, h6, h7, D2, rfl⟩ := forL_ind (f := loopF (call Fu.tb (d + 2)) (.nm 4) Fu.bLlook_1) (fun l env u => ∃ (t w : List Int) (st : Int) (e4 e7 : Sl), l = t.map .int ∧ w.length + t.length = sd.length ∧ (∀ x ∈ w, -512 ≤ x ∧ x ≤ 512) ∧ (∀ x ∈ t, 0 ≤ x ∧ x ≤ 8) ∧ (1 ≤ st ∧ st * 8 ^ t.length ≤ 512) ∧ Dr ns rest u ∧ env = [.v (.loc 0), .v (tI sd), .v (tI w), .v (.int st), e4, .no, .no, e7, .no]) (by
    rintro x l env s ⟨t, w, st, e4, e7, h3, h4, h5, h6, ⟨h7, h8⟩, D, rfl⟩
    cases t with
    | nil => cases h3
    | cons a t =>
      cases h3
      have ha := h6 a (List.mem_cons_self ..)
      rw [List.length_cons] at h4 h8
      have hp : (1 : Int) ≤ 8 ^ t.length := by
        have : 0 < (8 : Int) ^ t.length := Int.pow_pos (by decide)
        omega
      have h9 : st * 8 * 1 ≤ st * 8 * 8 ^ t.length := Int.mul_le_mul_of_nonneg_left hp (by omega)
      have h10 : st * 8 * 8 ^ t.length ≤ 512 := by
        rw [Int.mul_assoc, Int.mul_comm 8, ← Int.pow_succ]
        exact h8
      obtain ⟨y, e7', s', e, y1, y2, D'⟩ := look_turn d sd t w a st e4 e7 D (by omega) h5 ha h7 (by omega)
      refine ⟨_, s', e, t, y :: w, _, _, _, rfl, by simp; omega, ?_, fun x hx => h6 x (List.mem_cons_of_mem _ hx), ⟨?_, ?_⟩, D', rfl⟩
      · intro z hz
        rcases List.mem_cons.mp hz with rfl | hz
        · exact ⟨y1, y2⟩
        · exact h5 z hz
      · have := Int.mul_le_mul_of_nonneg_left (a := 1) (b := max 1 a) (c := st) (by omega) (by omega)
        omega
      · have h11 : st * max 1 a ≤ st * 8 := Int.mul_le_mul_of_nonneg_left (by omega) (by omega)
        have := Int.mul_le_mul_of_nonneg_right h11 (by omega : (0 : Int) ≤ 8 ^ t.length)
        omega) (sd.reverse.map .int) [.v (.loc 0), .v (tI sd), .v (.tup []), .v (.int 1), .no, .no, .no, .no, .no] s1 ⟨sd.reverse, [], 1, .no, .no, rfl, by simp, by simp, fun x hx => g2 x (by simpa using hx), ⟨by decide, by
        have : sd.length = 0 ∨ sd.length = 1 ∨ sd.length = 2 ∨ sd.length = 3 := by omega
        rcases this with h | h | h | h <;> simp [h]⟩, D1, rfl⟩
  have ht : t = [] := by cases t with | nil => rfl | cons _ _ => cases h3
  subst ht
  simp at h4
  have hrg : rg (sd.length : Int) = (List.range' 0 sd.length).map fun (k : Nat) => (k : Int) := by simp [rg, List.range_eq_range']
  have hr := rng_rg (a := (sd.length : Int)) (by omega) (by omega)
  have hc : ∀ (e5 : Sl) (g : Int → Int → Int) (bi : Bi) (hb : ∀ i j, biR s' bi [.v (.int 0), .v (.int (j * (i - 1)))] = some (.v (.int (g i j)))), ∃ out : List Int, lcL (lcF (call Fu.tb (d + 2)) [.v (.loc 0), .v (tI sd), .v (tI w), .v (.int st), e4, e5, .no, e7, .no] (.nm 8) (.some (.cmp .gt (.sub (.var 1) (.var 8)) (.cst (.int 0)))) (.bi bi (.cons (.cst (.int 0)) (.cons (.bin .mul (.sub (.var 2) (.var 8)) (.bin .sub (.sub (.var 1) (.var 8)) (.cst (.int 1)))) .nil)))) [] ((rg (sd.length : Int)).map .int) s' = .ok (out.map .int) s' ∧ out.sum = zs (z2 g) sd w := by
    intro e5 g bi hb
    obtain ⟨out, q1, q2⟩ := lcK (f := lcF (call Fu.tb (d + 2)) [.v (.loc 0), .v (tI sd), .v (tI w), .v (.int st), e4, e5, .no, e7, .no] (.nm 8) (.some (.cmp .gt (.sub (.var 1) (.var 8)) (.cst (.int 0)))) (.bi bi (.cons (.cst (.int 0)) (.cons (.bin .mul (.sub (.var 2) (.var 8)) (.bin .sub (.sub (.var 1) (.var 8)) (.cst (.int 1)))) .nil)))) g (s := s') h4 (fun n h1 h2 => by
      have b1 : L2.atI (sd.map AV.int) (n : Int) = some (.int sd[n]) := at_nat rfl (by simp [h1])
      have b2 : L2.atI (w.map AV.int) (n : Int) = some (.int w[n]) := at_nat rfl (by simp [h2])
      have b3 := g2 sd[n] (List.getElem_mem h1)
      have hm : mulOk w[n] (sd[n] - 1) = true := by unfold mulOk; simp; omega
      by_cases hp : 0 < sd[n]
      · simp [lcF, tI, b1, b2, hp, hm, hb]
      · simp [lcF, tI, b1, b2, hp]) sd.length 0 [] (by omega) (by simp; omega)
    rw [hrg]
    exact ⟨out, by simpa using q1, by simpa using q2⟩
  obtain ⟨o1, l1, l2⟩ := hc .no lo1 .min (fun i j => by simp [lo1]; omega)
  obtain ⟨o2, l3, l4⟩ := hc (.v (.int o1.sum)) hi1 .max (fun i j => by simp [hi1]; omega)
  have hL := zs_lo sd w
  have hH := zs_hi sd w
  rw [← l2] at hL
  rw [← l4] at hH
  by_cases hb : 511 < o2.sum - o1.sum
  · cases sd with
    | nil =>
      simp [zs] at l2 l4
      omega
    | cons a r =>
      refine ⟨0, [a], [1], s', ?_, ?_, D2⟩
      · have c1 := cut_one ((a :: r).map AV.int)
        have c2 := cut_one [AV.int 1]
        simp [Fu.bLlook, tI, lk, List.replicate, d0, e0] at e d1 l1 l3 hr c1 c2 ⊢
        simp [d1, e, hr, l1, l3, hb, c1, c2]
      · have ga := g2 a (List.mem_cons_self ..)
        refine ⟨by simp, fun x hx => ?_, by simp, fun x hx => ?_, by omega, ?_⟩
        · simp at hx; subst hx; exact ga
        · simp at hx; omega
        · simp [pr, zs, lo1, hi1]
          omega
  · obtain ⟨x7, s7, d7, a7, b7, D7⟩ := Ldrawn_ (d + 1) D2 (if 512 - o2.sum + o1.sum < 20 then 512 - o2.sum + o1.sum else 20) (by split <;> omega) (by split <;> omega)
    refine ⟨-o1.sum + x7, sd, w, s7, ?_, ?_, D7⟩
    · simp [Fu.bLlook, tI, lk, List.replicate, d0, e0] at e d1 l1 l3 hr ⊢
      simp [d1, e, hr, l1, l3, hb, d7]
    · have hx : x7 < 512 - o2.sum + o1.sum := by split at b7 <;> omega
      refine ⟨g1, g2, h4, h5, by omega, ?_⟩
      by_cases hz : pr sd = 0
      · exact .inl hz
      · rw [pr_zs lo1 sd w (fun x hx => (g2 x hx).1) hz] at l2
        rw [pr_zs hi1 sd w (fun x hx => (g2 x hx).1) hz] at l4
        exact .inr (by omega)
end LW

set_option maxRecDepth 100000
set_option maxHeartbeats 2000000
namespace LW
open EV PySem PySem.Spec
/-! ### looks: sums over sides -/
theorem mm_mul {a x m : Int} (h0 : 0 ≤ x) (h1 : x ≤ m) : min 0 (a * m) ≤ a * x ∧ a * x ≤ max 0 (a * m) := by
  by_cases ha : 0 ≤ a
  · have := Int.mul_le_mul_of_nonneg_left h1 ha
    have := Int.mul_nonneg ha h0
    omega
  · have := Int.mul_le_mul_of_nonpos_left (a := a) (by omega) h1
    have := Int.mul_nonpos_of_nonpos_of_nonneg (by omega : a ≤ 0) h0
    omega
theorem pr_pos : ∀ {sd : List Int}, (∀ x ∈ sd, 0 ≤ x) → 0 ≤ pr sd
  | [], _ => by simp [pr]
  | x :: l, h => by
    have := pr_pos (sd := l) fun y hy => h y (List.mem_cons_of_mem _ hy)
    exact Int.mul_nonneg (h x (List.mem_cons_self ..)) this
theorem pr_zero : ∀ {sd : List Int}, pr sd = 0 ↔ 0 ∈ sd
  | [] => by simp [pr]
  | x :: l => by
    have ih := pr_zero (sd := l)
    simp only [pr, Int.mul_eq_zero, List.mem_cons, ih]
    constructor
    · rintro (h | h)
      · exact .inl h.symm
      · exact .inr h
    · rintro (h | h)
      · exact .inl h.symm
      · exact .inr h
theorem pl_lt : ∀ {sd p : List Int}, p ∈ pl sd → p.length = sd.length ∧ ∀ (i : Nat) (x m : Int), p[i]? = some x → sd[i]? = some m → 0 ≤ x ∧ x < m
  | [], p, h => by simp [pl] at h; subst h; simp
  | a :: r, p, h => by
    simp only [pl, List.mem_flatMap, List.mem_map] at h
    obtain ⟨k, hk, q, hq, rfl⟩ := h
    obtain ⟨h1, h2⟩ := pl_lt hq
    have hk := rg_mem hk
    refine ⟨by simp [h1], fun i x m e1 e2 => ?_⟩
    cases i with
    | zero => simp at e1 e2; omega
    | succ i => exact h2 i x m (by simpa using e1) (by simpa using e2)
/-- a place's cell stands between the least and the greatest -/
theorem zs_range : ∀ {sd sp p : List Int}, p ∈ pl sd → sp.length = sd.length → zs lo1 sd sp ≤ zs (· * ·) p sp ∧ zs (· * ·) p sp ≤ zs hi1 sd sp
  | [], sp, p, h, hl => by simp [pl] at h; subst h; simp [zs]
  | a :: r, [], p, h, hl => by simp at hl
  | a :: r, b :: sp, p, h, hl => by
    simp only [pl, List.mem_flatMap, List.mem_map] at h
    obtain ⟨k, hk, q, hq, rfl⟩ := h
    have ih := zs_range (sp := sp) hq (by simpa using hl)
    have hk := rg_mem hk
    have := mm_mul (a := b) (x := k) (m := a - 1) (by omega) (by omega)
    simp only [zs, lo1, hi1]
    rw [Int.mul_comm k b]
    omega
theorem rg_in {a k : Int} (h0 : 0 ≤ k) (h1 : k < a) : k ∈ rg a := by
  unfold rg
  exact List.mem_map.mpr ⟨k.toNat, List.mem_range.mpr (by omega), by omega⟩
theorem lo_at : ∀ {sd sp : List Int}, (∀ x ∈ sd, 1 ≤ x) → sp.length = sd.length → ∃ p ∈ pl sd, zs (· * ·) p sp = zs lo1 sd sp
  | [], [], _, _ => ⟨[], by simp [pl], by simp [zs]⟩
  | [], _ :: _, _, h => by simp at h
  | a :: r, [], _, h => by simp at h
  | a :: r, b :: sp, h, hl => by
    obtain ⟨p, hp, e⟩ := lo_at (sd := r) (sp := sp) (fun x hx => h x (List.mem_cons_of_mem _ hx)) (by simpa using hl)
    have ha := h a (List.mem_cons_self ..)
    refine ⟨(if 0 ≤ b then 0 else a - 1) :: p, ?_, ?_⟩
    · simp only [pl, List.mem_flatMap, List.mem_map]
      exact ⟨_, rg_in (by split <;> omega) (by split <;> omega), p, hp, rfl⟩
    · simp only [zs, e, lo1]
      by_cases hb : 0 ≤ b
      · have := Int.mul_nonneg hb (by omega : 0 ≤ a - 1)
        rw [if_pos hb]; omega
      · have := Int.mul_nonpos_of_nonpos_of_nonneg (by omega : b ≤ 0) (by omega : 0 ≤ a - 1)
        rw [if_neg hb, Int.mul_comm]; omega
theorem hi_at : ∀ {sd sp : List Int}, (∀ x ∈ sd, 1 ≤ x) → sp.length = sd.length → ∃ p ∈ pl sd, zs (· * ·) p sp = zs hi1 sd sp
  | [], [], _, _ => ⟨[], by simp [pl], by simp [zs]⟩
  | [], _ :: _, _, h => by simp at h
  | a :: r, [], _, h => by simp at h
  | a :: r, b :: sp, h, hl => by
    obtain ⟨p, hp, e⟩ := hi_at (sd := r) (sp := sp) (fun x hx => h x (List.mem_cons_of_mem _ hx)) (by simpa using hl)
    have ha := h a (List.mem_cons_self ..)
    refine ⟨(if 0 ≤ b then a - 1 else 0) :: p, ?_, ?_⟩
    · simp only [pl, List.mem_flatMap, List.mem_map]
      exact ⟨_, rg_in (by split <;> omega) (by split <;> omega), p, hp, rfl⟩
    · simp only [zs, e, hi1]
      by_cases hb : 0 ≤ b
      · have := Int.mul_nonneg hb (by omega : 0 ≤ a - 1)
        rw [if_pos hb, Int.mul_comm]; omega
      · have := Int.mul_nonpos_of_nonpos_of_nonneg (by omega : b ≤ 0) (by omega : 0 ≤ a - 1)
        rw [if_neg hb]; omega
/-- the cells as numbers -/
def cs (st : Int) (sd sp : List Int) : List Int := (pl sd).map fun p => st + zs (· * ·) p sp
theorem cz_cs (st : Int) (sd sp : List Int) : cz st sd sp = (cs st sd sp).map .int := by simp [cz, cs, Function.comp_def]
/-- what is asked of a look's cells -/
structure Lb (sd sp : List Int) : Prop where
  h1 : sd.length ≤ 3
  h2 : ∀ x ∈ sd, 0 ≤ x ∧ x ≤ 8
  h3 : sp.length = sd.length
theorem Lk.lb {st : Int} {sd sp : List Int} (h : Lk st sd sp) : Lb sd sp := ⟨h.h1, h.h2, h.h3⟩
theorem Lk.cell {st : Int} {sd sp : List Int} (h : Lk st sd sp) : ∀ c ∈ cs st sd sp, 0 ≤ c ∧ c < 512 := by
  intro c hc
  obtain ⟨p, hp, rfl⟩ := List.mem_map.mp hc
  have hr := zs_range hp h.h3
  rcases h.h6 with hz | h6
  · have hz := pr_zero.mp hz
    obtain ⟨i, hi, e⟩ := List.getElem_of_mem hz
    obtain ⟨h1, h2⟩ := pl_lt hp
    have := h2 i p[i] sd[i] (by simp) (by simp)
    omega
  · omega
/-- a look by its cells -/
theorem lk_of {st : Int} {sd sp : List Int} (h : Lb sd sp) (hs : ∀ x ∈ sp, -512 ≤ x ∧ x ≤ 512) (h0 : 0 ≤ st ∧ st ≤ 511) (hc : ∀ c ∈ cs st sd sp, 0 ≤ c ∧ c < 512) : Lk st sd sp := by
  refine ⟨h.h1, h.h2, h.h3, hs, h0, ?_⟩
  by_cases hz : pr sd = 0
  · exact .inl hz
  · right
    have hp : ∀ x ∈ sd, 1 ≤ x := fun x hx => by
      have := (h.h2 x hx).1
      have : x ≠ 0 := fun e => hz (pr_zero.mpr (e ▸ hx))
      omega
    obtain ⟨p, hp1, e1⟩ := lo_at hp h.h3
    obtain ⟨q, hq1, e2⟩ := hi_at hp h.h3
    have c1 := hc (st + zs (· * ·) p sp) (List.mem_map.mpr ⟨p, hp1, rfl⟩)
    have c2 := hc (st + zs (· * ·) q sp) (List.mem_map.mpr ⟨q, hq1, rfl⟩)
    have := zs_range hq1 h.h3
    omega
/-- places of a list of sides, by length and bounds -/
theorem pl_in : ∀ {sd p : List Int}, p.length = sd.length → (∀ (i : Nat) (h1 : i < p.length) (h2 : i < sd.length), 0 ≤ p[i] ∧ p[i] < sd[i]) → p ∈ pl sd
  | [], [], _, _ => by simp [pl]
  | [], _ :: _, h, _ => by simp at h
  | a :: r, [], h, _ => by simp at h
  | a :: r, k :: p, h, hb => by
    simp only [pl, List.mem_flatMap, List.mem_map]
    have h0 := hb 0 (by simp) (by simp)
    exact ⟨k, rg_in (by simpa using h0.1) (by simpa using h0.2), p, pl_in (by simpa using h) fun i h1 h2 => by
      have := hb (i + 1) (by simpa using h1) (by simpa using h2)
      simpa using this, rfl⟩
theorem zs_append (g : Int → Int → Int) : ∀ {a b c d : List Int}, a.length = b.length → zs g (a ++ c) (b ++ d) = zs g a b + zs g c d
  | [], [], c, d, _ => by simp [zs]
  | [], _ :: _, _, _, h => by simp at h
  | _ :: _, [], _, _, h => by simp at h
  | x :: a, y :: b, c, d, h => by
    have := zs_append g (a := a) (b := b) (c := c) (d := d) (by simpa using h)
    simp [zs, this, Int.add_assoc]
end LW

set_option maxRecDepth 100000
set_option maxHeartbeats 2000000
namespace LW
open EV PySem PySem.Spec
abbrev Lo : Type := Int × List Int × List Int
def optA : Option Lo → AV
  | none => .non
  | some (st, sd, sp) => lk st sd sp
/-- the places begin, begin + stride .. ahead of the end -/
def runs : Nat → Int → Int → Int → List Int
  | 0, _, _, _ => []
  | m + 1, h, e, s => if (0 < s ∧ h < e) ∨ (s < 0 ∧ e < h) then h :: runs m (h + s) e s else []
theorem whl_runs (C : Cf Fu) (look way a0 a1 a2 a3 a8 a9 a12 : Sl) (e t : Int) (s : Sto) : ∀ (m n : Nat) (h : Int) (acc : List Int), ((0 < t → e - h ≤ m) ∧ (t < 0 → h - e ≤ m)) → m < n → acc.length + m ≤ 64 →
    ∃ h', whlL (whC C (.or (.cons (.and (.cons (.cmp .gt (.var 11) (.cst (.int 0))) (.cons (.cmp .lt (.var 7) (.var 10)) .nil))) (.cons (.and (.cons (.cmp .lt (.var 11) (.cst (.int 0))) (.cons (.cmp .gt (.var 7) (.var 10)) .nil))) .nil)))) (whF C Fu.bLled_1) n [look, way, a0, a1, a2, a3, .own (.lst (acc.map .int)), .v (.int h), a8, a9, .v (.int e), .v (.int t), a12] s =
      .ok (.nx, [look, way, a0, a1, a2, a3, .own (.lst ((acc ++ runs m h e t).map .int)), .v (.int h'), a8, a9, .v (.int e), .v (.int t), a12]) s := by
  intro m
  induction m with
  | zero =>
    intro n h acc h1 h2 h3
    obtain ⟨n, rfl⟩ : ∃ k, n = k + 1 := ⟨n - 1, by omega⟩
    refine ⟨h, ?_⟩
    rw [whlL]
    by_cases ht : 0 < t
    · have := h1.1 ht
      have c2 : ¬ h < e := by omega
      have c3 : ¬ t < 0 := by omega
      simp [whC, ht, runs, c2, c3]
    · by_cases ht' : t < 0
      · have := h1.2 ht'
        have c2 : ¬ e < h := by omega
        simp [whC, ht, ht', runs, c2]
      · simp [whC, ht, ht', runs]
  | succ m ih =>
    intro n h acc h1 h2 h3
    obtain ⟨n, rfl⟩ : ∃ k, n = k + 1 := ⟨n - 1, by omega⟩
    by_cases hc : (0 < t ∧ h < e) ∨ (t < 0 ∧ e < h)
    · obtain ⟨h', hh⟩ := ih n (h + t) (acc ++ [h]) (by omega) (by omega) (by simp; omega)
      refine ⟨h', ?_⟩
      rw [whlL]
      have hl : acc.length < sizeLine := Nat.lt_of_lt_of_le (by omega : acc.length < 4096) (by decide)
      have e1 : whC C (.or (.cons (.and (.cons (.cmp .gt (.var 11) (.cst (.int 0))) (.cons (.cmp .lt (.var 7) (.var 10)) .nil))) (.cons (.and (.cons (.cmp .lt (.var 11) (.cst (.int 0))) (.cons (.cmp .gt (.var 7) (.var 10)) .nil))) .nil))) [look, way, a0, a1, a2, a3, .own (.lst (acc.map .int)), .v (.int h), a8, a9, .v (.int e), .v (.int t), a12] s = .ok true s := by
        rcases hc with ⟨c1, c2⟩ | ⟨c1, c2⟩
        · simp [whC, c1, c2]
        · have c3 : ¬ 0 < t := by omega
          simp [whC, c1, c2, c3]
      have e2 : whF C Fu.bLled_1 [look, way, a0, a1, a2, a3, .own (.lst (acc.map .int)), .v (.int h), a8, a9, .v (.int e), .v (.int t), a12] s = .ok (.nx, [look, way, a0, a1, a2, a3, .own (.lst ((acc ++ [h]).map .int)), .v (.int (h + t)), a8, a9, .v (.int e), .v (.int t), a12]) s := by
        simp [whF, Fu.bLled_1, hl]
      rw [e1]
      simp only [Rs.bind_ok]
      rw [e2]
      simp only [Rs.bind_ok]
      rw [hh]
      simp [runs, hc]
    · refine ⟨h, ?_⟩
      rw [whlL]
      have e1 : whC C (.or (.cons (.and (.cons (.cmp .gt (.var 11) (.cst (.int 0))) (.cons (.cmp .lt (.var 7) (.var 10)) .nil))) (.cons (.and (.cons (.cmp .lt (.var 11) (.cst (.int 0))) (.cons (.cmp .gt (.var 7) (.var 10)) .nil))) .nil))) [look, way, a0, a1, a2, a3, .own (.lst (acc.map .int)), .v (.int h), a8, a9, .v (.int e), .v (.int t), a12] s = .ok false s := by
        by_cases c1 : 0 < t
        · have c2 : ¬ h < e := fun z => hc (.inl ⟨c1, z⟩)
          have c3 : ¬ t < 0 := by omega
          simp [whC, c1, c2, c3]
        · by_cases c3 : t < 0
          · have c2 : ¬ e < h := fun z => hc (.inr ⟨c3, z⟩)
            simp [whC, c1, c2, c3]
          · simp [whC, c1, c3]
      rw [e1]
      simp [runs, hc]
theorem take_cut {A : Type} (l : List A) (n : Nat) (h : n ≤ l.length) : cutA l none (some (n : Int)) = l.take n := by
  unfold cutA HT.sIx
  have : ¬ ((n : Int) < 0) := by omega
  simp [this, Nat.min_eq_left h]
theorem set_cut (l : List Int) (n : Nat) (v : Int) (h : n < l.length) : cutA (l.map AV.int) none (some (n : Int)) ++ [AV.int v] ++ cutA (l.map AV.int) (some ((n : Int) + 1)) none = (l.set n v).map AV.int := by
  have e1 := take_cut (l.map AV.int) n (by simp; omega)
  have e2 := cut_drop (l.map AV.int) (n + 1) (by simp; omega)
  have e3 : (((n + 1 : Nat) : Int)) = (n : Int) + 1 := by omega
  rw [e3] at e2
  rw [e1, e2, List.set_eq_take_append_cons_drop]
  simp [h]
theorem erase_cut (l : List Int) (n : Nat) (h : n < l.length) : cutA (l.map AV.int) none (some (n : Int)) ++ cutA (l.map AV.int) (some ((n : Int) + 1)) none = (l.eraseIdx n).map AV.int := by
  have e1 := take_cut (l.map AV.int) n (by simp; omega)
  have e2 := cut_drop (l.map AV.int) (n + 1) (by simp; omega)
  have e3 : (((n + 1 : Nat) : Int)) = (n : Int) + 1 := by omega
  rw [e3] at e2
  rw [e1, e2, List.eraseIdx_eq_take_drop_succ]
  simp
theorem shaped_lints (l : List Int) (_ : l.length ≤ 4096) : SeqAt.shaped (.list (l.map .int)) = true := by
  have := depth_ints l
  unfold SeqAt.shaped
  simp [PyData.canLay0, canLay_ints, PyData.depth]
  omega
theorem eqvAll_ints : ∀ l m : List Int, PyData.eqvAll (l.map .int) (m.map .int) = decide (l = m)
  | [], [] => by simp [PyData.eqvAll]
  | [], _ :: _ => by simp [PyData.eqvAll]
  | _ :: _, [] => by simp [PyData.eqvAll]
  | x :: l, y :: m => by
    have ih := eqvAll_ints l m
    simp only [List.map_cons, PyData.eqvAll, PyData.eqv, ih, List.cons.injEq]
    by_cases h : x = y <;> simp [h]
theorem eqv_lints (l m : List Int) : PyData.eqv (.list (l.map .int)) (.list (m.map .int)) = decide (l = m) := by
  simp only [PyData.eqv]
  exact eqvAll_ints l m
theorem eqv_tints (l m : List Int) : PyData.eqv (.tuple (l.map .int)) (.tuple (m.map .int)) = decide (l = m) := by
  simp only [PyData.eqv]
  exact eqvAll_ints l m
theorem dat_tI (s : Sto) (l : List Int) : dat s (.v (tI l)) = some (.tuple (l.map .int)) := by
  show (toDs (locD s 4) (l.map .int)).map PyData.tuple = _
  rw [toDs_ints]; rfl
theorem dat_lI (s : Sto) (l : List Int) : dat s (.v (.lst (l.map .int))) = some (.list (l.map .int)) := by
  show (toDs (locD s 4) (l.map .int)).map PyData.list = _
  rw [toDs_ints]; rfl
theorem q_tI (s : Sto) (l m : List Int) : eqR s (.v (tI l)) (.v (tI m)) = some (decide (l = m)) := by
  unfold eqR
  rw [dat_tI, dat_tI]
  simp only [shaped_ints, Bool.and_self, if_true]
  congr 1
  exact eqv_tints l m
theorem q_lints (s : Sto) (l m : List Int) (hl : l.length ≤ 4096) (hm : m.length ≤ 4096) : eqR s (.v (.lst (l.map .int))) (.v (.lst (m.map .int))) = some (decide (l = m)) := by
  have s1 := shaped_lints l hl
  have s2 := shaped_lints m hm
  unfold eqR
  rw [dat_lI, dat_lI]
  simp only [s1, s2, Bool.and_self, if_true]
  congr 1
  exact eqv_lints l m
/-- a comprehension that keeps what doesn't fit -/
theorem lc_bad {f : AV → Sto → Rs (Option AV)} {s : Sto} (P : Int → Prop) [DecidablePred P] (l : List Int) (hl : l.length ≤ 4096) (h : ∀ x ∈ l, f (.int x) s = .ok (if P x then none else some (.int x)) s) : ∃ out : List Int, lcL f [] (l.map .int) s = .ok (out.map .int) s ∧ (out = [] ↔ ∀ x ∈ l, P x) ∧ out.length ≤ l.length := by
  refine ⟨l.filter fun x => !decide (P x), ?_, ?_, List.length_filter_le _ _⟩
  · rw [lcL_filter (fun v => match v with | .int x => if P x then none else some (.int x) | v => none) _ [] s ?_ (by simpa using szle hl)]
    · congr 1
      simp only [List.nil_append, List.filterMap_map]
      clear h hl
      induction l with
      | nil => rfl
      | cons x l ih =>
        by_cases hx : P x
        · simp [hx] at ih ⊢; exact ih
        · simp [hx] at ih ⊢; exact ih
    · intro v hv
      obtain ⟨x, hx, rfl⟩ := List.mem_map.mp hv
      exact h x hx
  · rw [List.filter_eq_nil_iff]
    simp
/-! ### ways -/
inductive Wy where
  | cut (k b e s : Int) | pick (k p : Int) | trn (o : List Int) | ovr (w : List Int) | shp (w : List Int)
def Wy.av : Wy → AV
  | .cut k b e s => .tup [.str "cut", .int k, .int b, .int e, .int s]
  | .pick k p => .tup [.str "pick", .int k, .int p]
  | .trn o => .tup [.str "turned", tI o]
  | .ovr w => .tup [.str "over", tI w]
  | .shp w => .tup [.str "shaped", tI w]
/-- what the law's ways keep -/
def Wy.ok : Wy → Prop
  | .cut k b e s => -1000 ≤ k ∧ k ≤ 1000 ∧ -50 ≤ b ∧ b ≤ 9 ∧ -50 ≤ e ∧ e ≤ 9 ∧ -1000 ≤ s ∧ s ≤ 1000
  | .pick k p => -1000 ≤ k ∧ k ≤ 1000 ∧ -1000 ≤ p ∧ p ≤ 1000
  | .trn o => o.length ≤ 1000
  | .ovr w => w.length ≤ 1000 ∧ ∀ x ∈ w, -1000000 ≤ x ∧ x ≤ 1000000
  | .shp w => w.length ≤ 1000 ∧ ∀ x ∈ w, -1000000 ≤ x ∧ x ≤ 1000000
def ledC (st : Int) (sd sp : List Int) (k b e s : Int) : Option Lo :=
  if 0 ≤ k ∧ k < sd.length then
    let n := k.toNat
    let xs := runs 60 b e s
    if s = 0 ∨ ¬ ∀ x ∈ xs, 0 ≤ x ∧ x < sd.getD n 0 then none
    else if ¬ (-1 ≤ b ∧ b ≤ sd.getD n 0) ∨ ¬ (-1 ≤ e ∧ e ≤ sd.getD n 0) ∨ ¬ (-8 ≤ s ∧ s ≤ 8) then none
    else some (st + sp.getD n 0 * xs.headD 0, sd.set n xs.length, sp.set n (sp.getD n 0 * s * (if 1 < xs.length then 1 else 0)))
  else none
def ledP (st : Int) (sd sp : List Int) (k p : Int) : Option Lo :=
  if (0 ≤ k ∧ k < sd.length) ∧ (0 ≤ p ∧ p < sd.getD k.toNat 0) then some (st + sp.getD k.toNat 0 * p, sd.eraseIdx k.toNat, sp.eraseIdx k.toNat) else none
theorem runs_len : ∀ (m : Nat) (h e s : Int), (runs m h e s).length ≤ m
  | 0, _, _, _ => by simp [runs]
  | m + 1, h, e, s => by
    have := runs_len m (h + s) e s
    unfold runs
    split <;> simp <;> omega
theorem runs_abs : ∀ (m : Nat) (h e s : Int), ∀ x ∈ runs m h e s, (0 < s ∧ h ≤ x ∧ x < e) ∨ (s < 0 ∧ e < x ∧ x ≤ h)
  | 0, _, _, _, x, hx => by simp [runs] at hx
  | m + 1, h, e, s, x, hx => by
    unfold runs at hx
    split at hx
    · rename_i c
      rcases List.mem_cons.mp hx with rfl | hx
      · omega
      · have := runs_abs m (h + s) e s x hx
        omega
    · simp at hx
@[simp] theorem q_strs (s : Sto) (a b : Str) (ha : SeqAt.shaped (.str a) = true) (hb : SeqAt.shaped (.str b) = true) : eqR s (.v (.str a)) (.v (.str b)) = some (a == b) := by
  simp [eqR, dat, toD, ha, hb, PyData.eqv]
theorem in_cp (s : Sto) : inR s (.v (.str "cut")) (.v (.tup [.str "cut", .str "pick"])) = some true ∧ inR s (.v (.str "pick")) (.v (.tup [.str "cut", .str "pick"])) = some true ∧ inR s (.v (.str "turned")) (.v (.tup [.str "cut", .str "pick"])) = some false ∧ inR s (.v (.str "over")) (.v (.tup [.str "cut", .str "pick"])) = some false ∧ inR s (.v (.str "shaped")) (.v (.tup [.str "cut", .str "pick"])) = some false := by
  refine ⟨by rfl, by rfl, by rfl, by rfl, by rfl⟩
end LW

set_option maxRecDepth 100000
set_option maxHeartbeats 2000000
namespace LW
open EV PySem PySem.Spec
theorem getD_at {l : List Int} {n : Nat} (h : n < l.length) : l.getD n 0 = l[n] := by simp [h]
theorem sh_w (x : Str) (h : (x.cps.toList.all fun c => decide (c < 0x110000)) = true) : SeqAt.shaped (.str x) = true := by
  have : PyData.strOk x = true := by unfold PyData.strOk; rw [← Array.all_toList]; exact h
  simp [SeqAt.shaped, PyData.canLay0, PyData.depth, this]
theorem sh_c : SeqAt.shaped (.str "cut") = true := sh_w _ rfl
theorem sh_p : SeqAt.shaped (.str "pick") = true := sh_w _ rfl
theorem sh_t : SeqAt.shaped (.str "turned") = true := sh_w _ rfl
theorem sh_o : SeqAt.shaped (.str "over") = true := sh_w _ rfl
theorem sh_s : SeqAt.shaped (.str "shaped") = true := sh_w _ rfl
theorem q_c (s : Sto) : eqR s (.v (.str "cut")) (.v (.str "cut")) = some true := by rw [q_strs s _ _ sh_c sh_c]; rfl
theorem q_p (s : Sto) : eqR s (.v (.str "pick")) (.v (.str "cut")) = some false ∧ eqR s (.v (.str "pick")) (.v (.str "pick")) = some true := by
  rw [q_strs s _ _ sh_p sh_c, q_strs s _ _ sh_p sh_p]; exact ⟨rfl, rfl⟩
theorem q_t (s : Sto) : eqR s (.v (.str "turned")) (.v (.str "cut")) = some false ∧ eqR s (.v (.str "turned")) (.v (.str "pick")) = some false ∧ eqR s (.v (.str "turned")) (.v (.str "turned")) = some true := by
  rw [q_strs s _ _ sh_t sh_c, q_strs s _ _ sh_t sh_p, q_strs s _ _ sh_t sh_t]; exact ⟨rfl, rfl, rfl⟩
theorem q_o (s : Sto) : eqR s (.v (.str "over")) (.v (.str "cut")) = some false ∧ eqR s (.v (.str "over")) (.v (.str "pick")) = some false ∧ eqR s (.v (.str "over")) (.v (.str "turned")) = some false ∧ eqR s (.v (.str "over")) (.v (.str "over")) = some true := by
  rw [q_strs s _ _ sh_o sh_c, q_strs s _ _ sh_o sh_p, q_strs s _ _ sh_o sh_t, q_strs s _ _ sh_o sh_o]; exact ⟨rfl, rfl, rfl, rfl⟩
theorem q_s (s : Sto) : eqR s (.v (.str "shaped")) (.v (.str "cut")) = some false ∧ eqR s (.v (.str "shaped")) (.v (.str "pick")) = some false ∧ eqR s (.v (.str "shaped")) (.v (.str "turned")) = some false ∧ eqR s (.v (.str "shaped")) (.v (.str "over")) = some false := by
  rw [q_strs s _ _ sh_s sh_c, q_strs s _ _ sh_s sh_p, q_strs s _ _ sh_s sh_t, q_strs s _ _ sh_s sh_o]; exact ⟨rfl, rfl, rfl, rfl⟩
/-- a look that stands within its room -/
def Gd (o : Option Lo) : Prop := ∀ a b c, o = some (a, b, c) → Lb b c ∧ (pr b = 0 ∨ (0 ≤ a + zs lo1 b c ∧ a + zs hi1 b c < 512))
theorem gd_none : Gd none := fun _ _ _ h => by cases h
theorem zs_set (g : Int → Int → Int) : ∀ (l m : List Int) (n : Nat) (v w : Int) (h1 : n < l.length) (h2 : n < m.length), zs g (l.set n v) (m.set n w) = zs g l m - g l[n] m[n] + g v w
  | x :: l, y :: m, 0, v, w, _, _ => by simp [zs]; omega
  | x :: l, y :: m, n + 1, v, w, h1, h2 => by
    have := zs_set g l m n v w (by simpa using h1) (by simpa using h2)
    simp [zs, this]; omega
  | [], _, _, _, _, h, _ => by simp at h
  | _ :: _, [], _, _, _, _, h => by simp at h
theorem zs_erase (g : Int → Int → Int) : ∀ (l m : List Int) (n : Nat) (h1 : n < l.length) (h2 : n < m.length), zs g (l.eraseIdx n) (m.eraseIdx n) = zs g l m - g l[n] m[n]
  | x :: l, y :: m, 0, _, _ => by simp [zs]; omega
  | x :: l, y :: m, n + 1, h1, h2 => by
    have := zs_erase g l m n (by simpa using h1) (by simpa using h2)
    simp [zs, this]; omega
  | [], _, _, h, _ => by simp at h
  | _ :: _, [], _, _, h => by simp at h
theorem runs_last : ∀ (m : Nat) (h e s : Int), runs m h e s ≠ [] → (runs m h e s).head? = some h ∧ h + s * ((runs m h e s).length - 1) ∈ runs m h e s
  | 0, h, e, s, q => by simp [runs] at q
  | m + 1, h, e, s, q => by
    unfold runs at q ⊢
    split
    · rename_i c
      refine ⟨by simp, ?_⟩
      by_cases hr : runs m (h + s) e s = []
      · simp [hr]
      · have := (runs_last m (h + s) e s hr).2
        refine List.mem_cons_of_mem _ ?_
        have e1 : h + s * (((h :: runs m (h + s) e s).length : Int) - 1) = h + s + s * ((runs m (h + s) e s).length - 1) := by
          rw [List.length_cons, Int.mul_sub]
          push_cast
          rw [Int.mul_sub, Int.mul_add]
          omega
        rw [e1]
        exact this
    · rename_i c
      simp [c] at q
theorem mem_set0 {l : List Int} {n : Nat} {v : Int} (h : n < l.length) : (0 ∈ l.set n v) ↔ v = 0 ∨ ∃ (i : Nat) (hi : i < l.length), i ≠ n ∧ l[i] = 0 := by
  rw [List.mem_iff_getElem]
  constructor
  · rintro ⟨i, hi, e⟩
    rw [List.getElem_set] at e
    split at e
    · exact .inl e
    · exact .inr ⟨i, by simpa using hi, by omega, e⟩
  · rintro (rfl | ⟨i, hi, h1, h2⟩)
    · exact ⟨n, by simpa using h, by simp⟩
    · exact ⟨i, by simpa using hi, by rw [List.getElem_set]; simp [Ne.symm h1, h2]⟩
theorem cut_good {st : Int} {sd sp : List Int} (h : Lk st sd sp) {n : Nat} (hn : n < sd.length) (hn' : n < sp.length) {b e t : Int} (hx : ∀ x ∈ runs 60 b e t, 0 ≤ x ∧ x < sd[n]) (h8 : (runs 60 b e t).length ≤ 8) :
    Gd (some (st + sp[n] * (runs 60 b e t ++ [0]).headD 0, sd.set n (runs 60 b e t).length, sp.set n (sp[n] * t * (if 1 < (runs 60 b e t).length then 1 else 0)))) := by
  rintro _ _ _ ⟨⟩
  refine ⟨⟨by simpa using h.h1, fun x hx => ?_, by simpa using h.h3⟩, ?_⟩
  · rcases List.mem_or_eq_of_mem_set hx with hx | rfl
    · exact h.h2 x hx
    · omega
  · rw [pr_zero, mem_set0 hn]
    by_cases hr : runs 60 b e t = []
    · simp [hr]
    · obtain ⟨r1, r2⟩ := runs_last 60 b e t hr
      have hb : b ∈ runs 60 b e t := List.mem_of_mem_head? (by rw [r1]; exact rfl)
      have xb := hx b hb
      have xl := hx _ r2
      have hh : (runs 60 b e t ++ [0]).headD 0 = b := by
        cases hc : runs 60 b e t with
        | nil => exact absurd hc hr
        | cons x l => rw [hc] at r1; simp at r1; simp [r1]
      rw [hh, zs_set lo1 sd sp n _ _ hn hn', zs_set hi1 sd sp n _ _ hn hn']
      have m1 := mm_mul (a := sp[n]) xb.1 (by omega : b ≤ sd[n] - 1)
      have m2 := mm_mul (a := sp[n]) xl.1 (by omega : b + t * (((runs 60 b e t).length : Int) - 1) ≤ sd[n] - 1)
      rcases h.h6 with hz | h6
      · left; right
        have hz := pr_zero.mp hz
        obtain ⟨i, hi, e⟩ := List.getElem_of_mem hz
        exact ⟨i, hi, fun c => by subst c; omega, e⟩
      · right
        rw [Int.mul_add, ← Int.mul_assoc] at m2
        simp only [lo1, hi1] at h6 ⊢
        by_cases h1 : 1 < (runs 60 b e t).length
        · rw [if_pos h1, Int.mul_one]
          omega
        · rw [if_neg h1, Int.mul_zero, Int.zero_mul]
          omega
end LW

set_option maxRecDepth 100000
set_option maxHeartbeats 2000000
namespace LW
open EV PySem PySem.Spec
theorem tk_cut (l : List Int) (n : Nat) (h : n ≤ l.length) : cutA (l.map AV.int) none (some (n : Int)) = (l.take n).map AV.int := by
  rw [take_cut _ n (by simpa using h), List.map_take]
theorem dp_cut (l : List Int) (n : Nat) (h : n < l.length) : cutA (l.map AV.int) (some ((n : Int) + 1)) none = (l.drop (n + 1)).map AV.int := by
  have e2 := cut_drop (l.map AV.int) (n + 1) (by simp; omega)
  have e3 : (((n + 1 : Nat) : Int)) = (n : Int) + 1 := by omega
  rw [e3] at e2
  rw [e2, List.map_drop]
theorem set_td (l : List Int) (n : Nat) (v : Int) (h : n < l.length) : (l.take n).map AV.int ++ AV.int v :: (l.drop (n + 1)).map AV.int = (l.set n v).map AV.int := by
  rw [List.set_eq_take_append_cons_drop]
  simp [h]
theorem set_td2 {A : Type} (l : List A) (n : Nat) (v : A) (h : n < l.length) : l.take n ++ v :: l.drop (n + 1) = l.set n v := by
  rw [List.set_eq_take_append_cons_drop]
  simp [h]
theorem er_td (l : List Int) (n : Nat) : (l.take n).map AV.int ++ (l.drop (n + 1)).map AV.int = (l.eraseIdx n).map AV.int := by
  rw [List.eraseIdx_eq_take_drop_succ]
  simp
theorem runs_few {b e t M : Int} (ht : t ≠ 0) (hx : ∀ x ∈ runs 60 b e t, 0 ≤ x ∧ x < M) (hM : 0 ≤ M ∧ M ≤ 8) : (runs 60 b e t).length ≤ 8 := by
  by_cases hr : runs 60 b e t = []
  · simp [hr]
  · obtain ⟨r1, r2⟩ := runs_last 60 b e t hr
    have hb : b ∈ runs 60 b e t := List.mem_of_mem_head? (by rw [r1]; exact rfl)
    have xb := hx b hb
    have xl := hx _ r2
    have hp : 0 < (runs 60 b e t).length := by
      cases hc : runs 60 b e t with
      | nil => exact absurd hc hr
      | cons x l => simp
    by_cases h0 : 0 < t
    · have := Int.mul_le_mul_of_nonneg_right (a := 1) (b := t) (c := ((runs 60 b e t).length : Int) - 1) (by omega) (by omega)
      omega
    · have := Int.mul_le_mul_of_nonneg_right (a := t) (b := -1) (c := ((runs 60 b e t).length : Int) - 1) (by omega) (by omega)
      omega
theorem Lled_cut (d : Nat) {st : Int} {sd sp : List Int} (h : Lk st sd sp) (k b e t : Int) (hw : (Wy.cut k b e t).ok) (s : Sto) : ∃ o : Option Lo, call Fu.tb (d + 1) .Lled [lk st sd sp, (Wy.cut k b e t).av] s = .ok (.v (optA o)) s ∧ Gd o := by
  obtain ⟨k0, k1, b0, b1, e0, e1, t0, t1⟩ := hw
  rw [call_eq rfl rfl]
  have hL := h.h3
  have h3 := h.h1
  have ew : cutA [AV.str "cut", .int k, .int b, .int e, .int t] (some 2) none = [.int b, .int e, .int t] := rfl
  have i1 := (in_cp s).1
  have q1 := q_c s
  by_cases hk : 0 ≤ k ∧ k < sd.length
  · obtain ⟨n, rfl⟩ := Int.eq_ofNat_of_zero_le hk.1
    have hn : n < sd.length := by omega
    have hn' : n < sp.length := by omega
    have a1 : L2.atI (sd.map AV.int) (n : Int) = some (.int sd[n]) := at_nat rfl (by simp [hn])
    have a2 : L2.atI (sp.map AV.int) (n : Int) = some (.int sp[n]) := at_nat rfl (by simp [hn'])
    obtain ⟨h', hr⟩ := whl_runs (call Fu.tb d) (.v (lk st sd sp)) (.v (Wy.cut n b e t).av) (.v (.int st)) (.v (tI sd)) (.v (tI sp)) (.v (.int n)) .no (.v (.int b)) .no e t s 60 64 b [] (by omega) (by decide) (by decide)
    simp only [List.map_nil, List.nil_append] at hr
    have hlen := runs_len 60 b e t
    obtain ⟨out, c1, c2, c3⟩ := lc_bad (f := lcF (call Fu.tb d) [.v (lk st sd sp), .v (Wy.cut n b e t).av, .v (.int st), .v (tI sd), .v (tI sp), .v (.int n), .v (.lst ((runs 60 b e t).map .int)), .v (.int h'), .no, .v (.int b), .v (.int e), .v (.int t), .no] (.nm 12) (.some (.not (.ch2 .le .lt (.cst (.int 0)) (.var 12) (.sub (.var 3) (.var 5))))) (.var 12)) (s := s) (fun x => 0 ≤ x ∧ x < sd[n]) (runs 60 b e t) (by omega) (fun x hx => by
      by_cases x1 : 0 ≤ x
      · by_cases x2 : x < sd[n] <;> simp [lcF, tI, a1, x1, x2]
      · simp [lcF, tI, a1, x1])
    have q2 := q_lints s out [] (by omega) (by simp)
    have q3 : eqR s (.v (.lst ((runs 60 b e t).map .int))) (.v (.lst [])) = some (decide (runs 60 b e t = [])) := q_lints s (runs 60 b e t) [] (by omega) (by simp)
    simp only [List.map_nil] at q2
    simp only [lk, Wy.av, tI] at hr c1
    have m1 := h.h4 sp[n] (List.getElem_mem hn')
    have m2 := h.h2 sd[n] (List.getElem_mem hn)
    have hk2 : (n : Int) < sd.length := by omega
    by_cases ht : t = 0
    · subst ht
      refine ⟨none, ?_, gd_none⟩
      simp [Fu.bLled, lk, Wy.av, tI, List.replicate, i1, q1, hk2, ew, hr, optA]
    · by_cases hx : ∀ x ∈ runs 60 b e t, 0 ≤ x ∧ x < sd[n]
      · have ho := c2.mpr hx
        subst ho
        by_cases hb : -1 ≤ b ∧ b ≤ sd[n]
        · by_cases he : -1 ≤ e ∧ e ≤ sd[n]
          · by_cases h8 : -8 ≤ t ∧ t ≤ 8
            · have hg := cut_good h hn hn' hx (runs_few ht hx m2)
              have hh : L2.atI ((runs 60 b e t).map AV.int ++ [AV.int 0]) 0 = some (.int ((runs 60 b e t ++ [0]).headD 0)) := by
                cases runs 60 b e t <;> simp
              have hb60 : -60 ≤ (runs 60 b e t ++ [0]).headD 0 ∧ (runs 60 b e t ++ [0]).headD 0 ≤ 60 := by
                by_cases hc : runs 60 b e t = []
                · simp [hc]
                · have r1 := (runs_last 60 b e t hc).1
                  have hb : b ∈ runs 60 b e t := List.mem_of_mem_head? (by rw [r1]; exact rfl)
                  have xb := hx b hb
                  have hh : (runs 60 b e t ++ [0]).headD 0 = b := by
                    cases hc2 : runs 60 b e t with
                    | nil => exact absurd hc2 hc
                    | cons x l => rw [hc2] at r1; simp at r1; simp [r1]
                  rw [hh]
                  omega
              have hy0 : runs 60 b e t = [] → (runs 60 b e t ++ [0]).headD 0 = 0 := fun z => by simp [z]
              generalize (runs 60 b e t ++ [0]).headD 0 = y at *
              generalize hxs : runs 60 b e t = xs at *
              have z1 : n + 1 ≤ sizeLine := szle (by omega)
              have z2 : n + 1 + (sd.length - (n + 1)) ≤ sizeLine := szle (by omega)
              have z3 : n + (sd.length - (n + 1)) + 1 ≤ sizeLine := szle (by omega)
              have zm1 : min n sd.length = n := by omega
              have hsp := hL
              have c1' := tk_cut sd n (by omega)
              have c2' := tk_cut sp n (by omega)
              have c3' := dp_cut sd n hn
              have c4' := dp_cut sp n hn'
              have hm3 : mulOk sp[n] t = true := by unfold mulOk; simp; omega
              have z5 : xs.length + 1 ≤ sizeLine := szle (by omega)
              have hm4 : mulOk sp[n] y = true := by unfold mulOk; simp; omega
              by_cases hr1 : 1 < xs.length
              · have hr0 : xs ≠ [] := fun z => by simp [z] at hr1
                have hm5 : mulOk (sp[n] * t) 1 = true := by unfold mulOk; simp
                have hr2 : (1 : Int) < xs.length := by omega
                refine ⟨_, ?_, hg⟩
                simp [Fu.bLled, lk, Wy.av, tI, List.replicate, i1, q1, hk2, ew, hr, optA, ht, c1, q2, a1, a2, hb, he, h8, q3, hh, z1, z2, z3, z5, zm1, c1', c2', c3', c4', hm3, hm4, hsp, hr0, hr1, hr2, hm5]
                exact ⟨set_td2 _ _ _ (by simpa using hn), set_td2 _ _ _ (by simpa using hn')⟩
              · have hm5 : mulOk (sp[n] * t) 0 = true := by unfold mulOk; simp
                have hr2 : ¬ (1 : Int) < xs.length := by omega
                refine ⟨_, ?_, hg⟩
                by_cases hr0 : xs = []
                · subst hr0
                  obtain rfl := hy0 rfl
                  simp only [List.map_nil, List.nil_append] at c1 hr q3 hh
                  simp [Fu.bLled, lk, Wy.av, tI, List.replicate, i1, q1, hk2, ew, hr, optA, ht, c1, q2, a1, a2, hb, he, h8, q3, hh, z1, z2, z3, z5, zm1, c1', c2', c3', c4', hm3, hm4, hsp, hm5]
                  exact ⟨set_td2 _ _ _ (by simpa using hn), set_td2 _ _ _ (by simpa using hn')⟩
                · simp [Fu.bLled, lk, Wy.av, tI, List.replicate, i1, q1, hk2, ew, hr, optA, ht, c1, q2, a1, a2, hb, he, h8, q3, hh, z1, z2, z3, z5, zm1, c1', c2', c3', c4', hm3, hm4, hsp, hr0, hr1, hr2, hm5]
                  exact ⟨set_td2 _ _ _ (by simpa using hn), set_td2 _ _ _ (by simpa using hn')⟩
            · refine ⟨none, ?_, gd_none⟩
              by_cases hz : -8 ≤ t
              · have hy : ¬ t ≤ 8 := fun z => h8 ⟨hz, z⟩
                simp [Fu.bLled, lk, Wy.av, tI, List.replicate, i1, q1, hk2, ew, hr, optA, ht, c1, q2, a1, a2, hb, he, hz, hy]
              · simp [Fu.bLled, lk, Wy.av, tI, List.replicate, i1, q1, hk2, ew, hr, optA, ht, c1, q2, a1, a2, hb, he, hz]
          · refine ⟨none, ?_, gd_none⟩
            by_cases hz : -1 ≤ e
            · have hy : ¬ e ≤ sd[n] := fun z => he ⟨hz, z⟩
              simp [Fu.bLled, lk, Wy.av, tI, List.replicate, i1, q1, hk2, ew, hr, optA, ht, c1, q2, a1, a2, hb, hz, hy]
            · simp [Fu.bLled, lk, Wy.av, tI, List.replicate, i1, q1, hk2, ew, hr, optA, ht, c1, q2, a1, a2, hb, hz]
        · refine ⟨none, ?_, gd_none⟩
          by_cases hz : -1 ≤ b
          · have hy : ¬ b ≤ sd[n] := fun z => hb ⟨hz, z⟩
            simp [Fu.bLled, lk, Wy.av, tI, List.replicate, i1, q1, hk2, ew, hr, optA, ht, c1, q2, a1, a2, hz, hy]
          · simp [Fu.bLled, lk, Wy.av, tI, List.replicate, i1, q1, hk2, ew, hr, optA, ht, c1, q2, a1, a2, hz]
      · have ho : out ≠ [] := fun z => hx (c2.mp z)
        refine ⟨none, ?_, gd_none⟩
        simp [Fu.bLled, lk, Wy.av, tI, List.replicate, i1, q1, hk2, ew, hr, optA, ht, c1, q2, ho]
  · refine ⟨none, ?_, gd_none⟩
    by_cases h0 : 0 ≤ k
    · have h1 : ¬ k < sd.length := fun z => hk ⟨h0, z⟩
      simp [Fu.bLled, lk, Wy.av, tI, List.replicate, i1, h0, h1, optA]
    · simp [Fu.bLled, lk, Wy.av, tI, List.replicate, i1, h0, optA]
end LW

set_option maxRecDepth 100000
set_option maxHeartbeats 2000000
namespace LW
open EV PySem PySem.Spec
theorem pick_good {st : Int} {sd sp : List Int} (h : Lk st sd sp) {n : Nat} (hn : n < sd.length) (hn' : n < sp.length) {p : Int} (hp : 0 ≤ p ∧ p < sd[n]) : Gd (some (st + sp[n] * p, sd.eraseIdx n, sp.eraseIdx n)) := by
  rintro _ _ _ ⟨⟩
  have hL := h.h3
  have h1 := h.h1
  refine ⟨⟨?_, fun x hx => h.h2 x (List.mem_of_mem_eraseIdx hx), ?_⟩, ?_⟩
  · rw [List.length_eraseIdx]; split <;> omega
  · rw [List.length_eraseIdx, List.length_eraseIdx, hL]
  · rw [zs_erase lo1 sd sp n hn hn', zs_erase hi1 sd sp n hn hn']
    have m1 := mm_mul (a := sp[n]) hp.1 (by omega : p ≤ sd[n] - 1)
    rcases h.h6 with hz | h6
    · left
      have hz := pr_zero.mp hz
      obtain ⟨i, hi, e⟩ := List.getElem_of_mem hz
      exact pr_zero.mpr (List.mem_eraseIdx_iff_getElem.mpr ⟨i, hi, fun c => by subst c; omega, e⟩)
    · right
      simp only [lo1, hi1] at h6 ⊢
      omega
theorem Lled_pick (d : Nat) {st : Int} {sd sp : List Int} (h : Lk st sd sp) (k p : Int) (hw : (Wy.pick k p).ok) (s : Sto) : ∃ o : Option Lo, call Fu.tb (d + 1) .Lled [lk st sd sp, (Wy.pick k p).av] s = .ok (.v (optA o)) s ∧ Gd o := by
  obtain ⟨k0, k1, p0, p1⟩ := hw
  rw [call_eq rfl rfl]
  have hL := h.h3
  have h3 := h.h1
  have i1 := (in_cp s).2.1
  have q1 := (q_p s).1
  have q2 := (q_p s).2
  by_cases hk : 0 ≤ k ∧ k < sd.length
  · obtain ⟨n, rfl⟩ := Int.eq_ofNat_of_zero_le hk.1
    have hn : n < sd.length := by omega
    have hn' : n < sp.length := by omega
    have a1 : L2.atI (sd.map AV.int) (n : Int) = some (.int sd[n]) := at_nat rfl (by simp [hn])
    have a2 : L2.atI (sp.map AV.int) (n : Int) = some (.int sp[n]) := at_nat rfl (by simp [hn'])
    have m1 := h.h4 sp[n] (List.getElem_mem hn')
    have hk2 : (n : Int) < sd.length := by omega
    by_cases hp0 : 0 ≤ p
    · by_cases hp1 : p < sd[n]
      · refine ⟨_, ?_, pick_good h hn hn' ⟨hp0, hp1⟩⟩
        have z2 : n + (sd.length - (n + 1)) ≤ sizeLine := szle (by omega)
        have zm1 : min n sd.length = n := by omega
        have c1' := tk_cut sd n (by omega)
        have c2' := tk_cut sp n (by omega)
        have c3' := dp_cut sd n hn
        have c4' := dp_cut sp n hn'
        have hm4 : mulOk sp[n] p = true := by unfold mulOk; simp; omega
        have e1 := er_td sd n
        have e2 := er_td sp n
        simp only [List.map_take, List.map_drop] at e1 e2
        simp [Fu.bLled, lk, Wy.av, tI, List.replicate, i1, q1, q2, hk2, optA, a1, a2, hp0, hp1, c1', c2', c3', c4', zm1, hL, z2, hm4, e1, e2]
      · refine ⟨none, ?_, gd_none⟩
        simp [Fu.bLled, lk, Wy.av, tI, List.replicate, i1, q1, q2, hk2, optA, a1, hp0, hp1]
    · refine ⟨none, ?_, gd_none⟩
      simp [Fu.bLled, lk, Wy.av, tI, List.replicate, i1, q1, q2, hk2, optA, a1, hp0]
  · refine ⟨none, ?_, gd_none⟩
    by_cases h0 : 0 ≤ k
    · have h1 : ¬ k < sd.length := fun z => hk ⟨h0, z⟩
      simp [Fu.bLled, lk, Wy.av, tI, List.replicate, i1, h0, h1, optA]
    · simp [Fu.bLled, lk, Wy.av, tI, List.replicate, i1, h0, optA]
/-! ### turned -/
theorem insI_perm (x : Int) : ∀ l : List Int, (insI x l).Perm (x :: l)
  | [] => .refl _
  | y :: l => by
    unfold insI
    split
    · exact .refl _
    · exact ((insI_perm x l).cons y).trans (.swap ..)
theorem sortI_perm : ∀ l : List Int, (sortI l).Perm l
  | [] => .refl _
  | x :: l => (insI_perm x _).trans ((sortI_perm l).cons x)
theorem perm_sum {l m : List Int} (h : l.Perm m) : l.sum = m.sum := by
  induction h with
  | nil => rfl
  | cons x _ ih => simp [ih]
  | swap x y l => simp; omega
  | trans _ _ a b => rw [a, b]
theorem zs_map (g : Int → Int → Int) (f1 f2 : Int → Int) : ∀ o : List Int, zs g (o.map f1) (o.map f2) = (o.map fun k => g (f1 k) (f2 k)).sum
  | [] => rfl
  | k :: o => by simp [zs, zs_map g f1 f2 o]
theorem rg_map {l : List Int} : (rg l.length).map (fun k => l.getD k.toNat 0) = l := by
  refine List.ext_getElem (by simp [rg_len]) fun i h1 h2 => ?_
  simp [rg, h2]
theorem trn_good {st : Int} {sd sp : List Int} (h : Lk st sd sp) {o : List Int} (ho : sortI o = rg sd.length) : Gd (some (st, o.map fun k => sd.getD k.toNat 0, o.map fun k => sp.getD k.toNat 0)) := by
  have hp : o.Perm (rg sd.length) := ho ▸ (sortI_perm o).symm
  have hL := h.h3
  have h1 := h.h1
  have hz : ∀ g, zs g (o.map fun k => sd.getD k.toNat 0) (o.map fun k => sp.getD k.toNat 0) = zs g sd sp := fun g => by
    rw [zs_map, perm_sum (hp.map _), ← zs_map g (fun k => sd.getD k.toNat 0) (fun k => sp.getD k.toNat 0), rg_map]
    rw [← hL, rg_map]
  have hm : (o.map fun k => sd.getD k.toNat 0).Perm sd := by
    have := hp.map fun k => sd.getD k.toNat 0
    rwa [rg_map] at this
  rintro _ _ _ ⟨⟩
  refine ⟨⟨by rw [hm.length_eq]; exact h1, fun x hx => h.h2 x (hm.mem_iff.mp hx), by simp⟩, ?_⟩
  rw [hz, hz, pr_zero, hm.mem_iff, ← pr_zero]
  rcases h.h6 with q | q
  · exact .inl q
  · exact .inr ⟨q.1, q.2.2⟩
theorem Lled_trn (d : Nat) {st : Int} {sd sp : List Int} (h : Lk st sd sp) (o : List Int) (hw : (Wy.trn o).ok) (s : Sto) : ∃ r : Option Lo, call Fu.tb (d + 1) .Lled [lk st sd sp, (Wy.trn o).av] s = .ok (.v (optA r)) s ∧ Gd r := by
  have hw : o.length ≤ 1000 := hw
  rw [call_eq rfl rfl]
  have hL := h.h3
  have h3 := h.h1
  have i1 := (in_cp s).2.2.1
  have q1 := (q_t s).1
  have q2 := (q_t s).2.1
  have q3 := (q_t s).2.2
  have hr := rng_rg (a := (sd.length : Int)) (by omega) (by omega)
  have hsl : (sortI o).length = o.length := (sortI_perm o).length_eq
  have q4 := q_lints s (sortI o) (rg sd.length) (by omega) (by rw [rg_len]; omega)
  have zr : (rg (sd.length : Int)).length ≤ sizeLine := szle (by rw [rg_len]; omega)
  by_cases ho : sortI o = rg sd.length
  · refine ⟨_, ?_, trn_good h ho⟩
    have hp : o.Perm (rg sd.length) := ho ▸ (sortI_perm o).symm
    have hmem : ∀ k ∈ o, 0 ≤ k ∧ k < sd.length := fun k hk => by
      have := rg_mem (hp.mem_iff.mp hk)
      exact this
    have hc : ∀ (l : List Int) (j : Nat) (env : EV.Env), l.length = sd.length → rd (env.set 12 .no) j = some (.v (tI l)) → True := fun _ _ _ _ _ => trivial
    have hlc : ∀ (l : List Int) (j : Nat) (e5 : Sl), (l = sd ∧ j = 3 ∨ l = sp ∧ j = 4) → lcL (lcF (call Fu.tb d) [.v (lk st sd sp), .v (Wy.trn o).av, .v (.int st), .v (tI sd), .v (tI sp), .no, .no, .no, .no, .no, .no, .no, .no] (.nm 12) .none (.sub (.var j) (.var 12))) [] (o.map .int) s = .ok ((o.map fun k => l.getD k.toNat 0).map .int) s := by
      intro l j _ hl
      rw [lcL_map (fun v => match v with | .int k => .int (l.getD k.toNat 0) | v => v) _ s _ (by simpa using szle (by omega))]
      · simp [Function.comp_def]
      · intro v hv
        obtain ⟨k, hk, rfl⟩ := List.mem_map.mp hv
        have := hmem k hk
        have e1 : L2.atI (l.map AV.int) k = some (.int (l.getD k.toNat 0)) := by
          have : k.toNat < l.length := by rcases hl with ⟨rfl, _⟩ | ⟨rfl, _⟩ <;> omega
          exact at_nat (n := k.toNat) (by omega) (by simp [this])
        rcases hl with ⟨rfl, rfl⟩ | ⟨rfl, rfl⟩
        · simp only [tI, lcF, wipeT_nm, setT_nm, Rs.of_some, Rs.bind_ok, ec_none]
          simp [e1]
        · simp only [tI, lcF, wipeT_nm, setT_nm, Rs.of_some, Rs.bind_ok, ec_none]
          simp [e1]
    have l1 := hlc sd 3 .no (.inl ⟨rfl, rfl⟩)
    have l2 := hlc sp 4 .no (.inr ⟨rfl, rfl⟩)
    rw [ho] at q4
    simp only [lk, Wy.av, tI] at l1 l2
    simp [Fu.bLled, lk, Wy.av, tI, List.replicate, i1, q1, q2, q3, optA, hr, zr, ho, q4, l1, l2, biR]
  · refine ⟨none, ?_, gd_none⟩
    simp [Fu.bLled, lk, Wy.av, tI, List.replicate, i1, q1, q2, q3, optA, hr, zr, q4, ho]
end LW

set_option maxRecDepth 100000
set_option maxHeartbeats 2000000
namespace LW
open EV PySem PySem.Spec
theorem forL_or {F : Type} {f : EV.Env → AV → Sto → Rs (Fl × EV.Env)} (P : List AV → EV.Env → Sto → Prop) (Q : R → Sto → Prop) (h : ∀ x l env s, P (x :: l) env s → (∃ env' s', f env x s = .ok (.nx, env') s' ∧ P l env' s') ∨ ∃ r env' s', f env x s = .ok (.rt r, env') s' ∧ Q r s') : ∀ (l : List AV) (env : EV.Env) (s : Sto), P l env s → (∃ env' s', forL f l env s = .ok (.nx, env') s' ∧ P [] env' s') ∨ ∃ r env' s', forL f l env s = .ok (.rt r, env') s' ∧ Q r s'
  | [], env, s, q => .inl ⟨env, s, rfl, q⟩
  | x :: l, env, s, q => by
    rcases h x l env s q with ⟨env', s', e, q'⟩ | ⟨r, env', s', e, q'⟩
    · rcases forL_or (F := F) P Q h l env' s' q' with ⟨env2, s2, e2, q2⟩ | ⟨r, env2, s2, e2, q2⟩
      · refine .inl ⟨env2, s2, ?_, q2⟩
        rw [forL, e]
        simpa using e2
      · refine .inr ⟨r, env2, s2, ?_, q2⟩
        rw [forL, e]
        simpa using e2
    · refine .inr ⟨r, env', s', ?_, q'⟩
      rw [forL, e]
      simp
theorem zs_congr (g : Int → Int → Int) : ∀ {a b c d : List Int}, a.length = c.length → b.length = d.length → (∀ (i : Nat) (h1 : i < a.length) (h2 : i < b.length) (h3 : i < c.length) (h4 : i < d.length), g a[i] b[i] = g c[i] d[i]) → zs g a b = zs g c d
  | [], b, [], d, _, _, _ => by simp [zs]
  | [], _, _ :: _, _, h, _, _ => by simp at h
  | _ :: _, _, [], _, h, _, _ => by simp at h
  | _ :: _, [], _ :: _, [], _, _, _ => by simp [zs]
  | _ :: _, [], _ :: _, _ :: _, _, h, _ => by simp at h
  | _ :: _, _ :: _, _ :: _, [], _, h, _ => by simp at h
  | x :: a, y :: b, z :: c, w :: d, h1, h2, h => by
    have h0 := h 0 (by simp) (by simp) (by simp) (by simp)
    have ih := zs_congr g (a := a) (b := b) (c := c) (d := d) (by simpa using h1) (by simpa using h2) fun i q1 q2 q3 q4 => by
      have := h (i + 1) (by simpa using q1) (by simpa using q2) (by simpa using q3) (by simpa using q4)
      simpa using this
    simp at h0
    simp [zs, h0, ih]
theorem zs_zero (g : Int → Int → Int) (h : ∀ x, g x 0 = 0) : ∀ (l : List Int) (m : Nat), zs g l (List.replicate m 0) = 0
  | [], m => by simp [zs]
  | x :: l, 0 => by simp [zs]
  | x :: l, m + 1 => by simp [List.replicate_succ, zs, h, zs_zero g h l m]
/-- a step laid over a wider side -/
def ovT (w sd sp : List Int) (m i : Nat) : Int := sp.getD i 0 * (if sd.getD i 0 = w.getD (m + i) 0 then 1 else 0)
theorem over_good {st : Int} {sd sp : List Int} (h : Lk st sd sp) {w : List Int} {m : Nat} (hw : w.length = m + sd.length) (h3 : w.length ≤ 3) (h8 : ∀ x ∈ w, 0 ≤ x ∧ x ≤ 8) (hc : ∀ i < sd.length, sd.getD i 0 = w.getD (m + i) 0 ∨ sd.getD i 0 = 1) : Gd (some (st, w, List.replicate m 0 ++ (List.range sd.length).map (ovT w sd sp m))) := by
  have hL := h.h3
  have key : ∀ g : Int → Int → Int, (∀ x, g x 0 = 0) → (∀ y, g 1 y = 0) → zs g w (List.replicate m 0 ++ (List.range sd.length).map (ovT w sd sp m)) = zs g sd sp := by
    intro g g0 g1
    rw [show w = w.take m ++ w.drop m by simp, zs_append g (by simp; omega), zs_zero g g0, Int.zero_add]
    refine zs_congr g (by simp; omega) (by simp [hL]) fun i q1 q2 q3 q4 => ?_
    have e := hc i q3
    have hi : m + i < w.length := by omega
    simp only [List.getElem_drop, List.getElem_map, List.getElem_range, ovT, List.take_append_drop]
    simp [q3, q4, hi] at e ⊢
    rcases e with e | e
    · simp [e]
    · split
      · rename_i c; rw [← c]; simp
      · rw [e]; simp [g0, g1]
  rintro _ _ _ ⟨⟩
  refine ⟨⟨h3, h8, by simp [hw]⟩, ?_⟩
  rw [key lo1 (by simp [lo1]) (by simp [lo1]), key hi1 (by simp [hi1]) (by simp [hi1])]
  rcases h.h6 with q | q
  · left
    have hz := pr_zero.mp q
    obtain ⟨i, hi, e⟩ := List.getElem_of_mem hz
    have := hc i hi
    have hi' : m + i < w.length := by omega
    simp [hi, e, hi'] at this
    exact pr_zero.mpr (this ▸ List.getElem_mem hi')
  · exact .inr ⟨q.1, q.2.2⟩
theorem Lover_ (d : Nat) {st : Int} {sd sp : List Int} (h : Lk st sd sp) (w : List Int) (h3 : w.length ≤ 3) (h8 : ∀ x ∈ w, 0 ≤ x ∧ x ≤ 8) (s : Sto) : ∃ r : Option Lo, call Fu.tb (d + 1) .Lover [lk st sd sp, tI w] s = .ok (.v (optA r)) s ∧ Gd r := by
  rw [call_eq rfl rfl]
  have hL := h.h3
  have h1 := h.h1
  have hr := rng_rg (a := (sd.length : Int)) (by omega) (by omega)
  by_cases hm : sd.length ≤ w.length
  · obtain ⟨m, hM⟩ := Nat.exists_eq_add_of_le' hm
    have hM2 : (w.length : Int) - sd.length = m := by omega
    have e0 : binR s .mul (.v (.tup [.int 0])) (.v (.int (if 0 < m then (m : Int) else 0))) = some (.v (tI (List.replicate m 0))) := by
      rw [show (if 0 < m then (m : Int) else 0) = m by split <;> omega]
      rw [b_tmul _ _ (by omega) (by omega) (szle (by simp; omega))]
      simp [tI]
    have l := forL_or (F := Fu) (f := loopF (call Fu.tb d) (.nm 4) Fu.bLover_1) (fun l env t => t = s ∧ ∃ (j k : Nat) (e4 e5 : Sl), j + k = sd.length ∧ l = ((List.range' j k).map fun (k : Nat) => (k : Int)).map .int ∧ (∀ i < j, sd.getD i 0 = w.getD (m + i) 0 ∨ sd.getD i 0 = 1) ∧ env = [.v (lk st sd sp), .v (tI w), .v (.int m), .v (tI (List.replicate m 0 ++ (List.range j).map (ovT w sd sp m))), e4, e5]) (fun r t => t = s ∧ r = .v .non) (by
      rintro x l env s ⟨rfl, j, k, e4, e5, hjk, h4, hc, rfl⟩
      cases k with
      | zero => cases h4
      | succ k =>
        rw [List.range'_succ] at h4
        cases h4
        have hj : j < sd.length := by omega
        have hj' : j < sp.length := by omega
        have hj2 : m + j < w.length := by omega
        have a1 : L2.atI (sd.map AV.int) (j : Int) = some (.int sd[j]) := at_nat rfl (by simp [hj])
        have a2 : L2.atI (sp.map AV.int) (j : Int) = some (.int sp[j]) := at_nat rfl (by simp [hj'])
        have a3 : L2.atI (w.map AV.int) ((m : Int) + j) = some (.int w[m + j]) := at_nat (n := m + j) (by omega) (by simp [hj2])
        have hs : m + j + 1 ≤ sizeLine := szle (by omega)
        have hm0 : ¬ (m : Int) < 0 := by omega
        by_cases c : sd[j] = w[m + j]
        · refine .inl ⟨_, s, ?_, rfl, j + 1, k, .v (.int j), .v (.int sd[j]), by omega, rfl, ?_, rfl⟩
          · have hm1 : mulOk sp[j] 1 = true := by unfold mulOk; simp
            simp [loopF, Fu.bLover_1, lk, tI, a1, a2, a3, hm0, c, hs, hm1, List.range_succ, ovT, hj, hj', hj2]
          · intro i hi
            by_cases hij : i = j
            · subst hij; left; simp [hj, hj2, c]
            · exact hc i (by omega)
        · by_cases c1 : sd[j] = 1
          · refine .inl ⟨_, s, ?_, rfl, j + 1, k, .v (.int j), .v (.int sd[j]), by omega, rfl, ?_, rfl⟩
            · have hm1 : mulOk sp[j] 0 = true := by unfold mulOk; simp
              rw [c1] at c
              simp [loopF, Fu.bLover_1, lk, tI, a1, a2, a3, hm0, c, c1, hs, hm1, List.range_succ, ovT, hj, hj', hj2]
            · intro i hi
              by_cases hij : i = j
              · subst hij; right; simp [hj, c1]
              · exact hc i (by omega)
          · refine .inr ⟨.v .non, [.v (lk st sd sp), .v (tI w), .v (.int m), .v (tI (List.replicate m 0 ++ (List.range j).map (ovT w sd sp m))), .v (.int j), .v (.int sd[j])], s, ?_, rfl, rfl⟩
            simp [loopF, Fu.bLover_1, lk, tI, a1, a2, a3, hm0, c, c1]) ((rg sd.length).map .int) [.v (lk st sd sp), .v (tI w), .v (.int m), .v (tI (List.replicate m 0)), .no, .no] s ⟨rfl, 0, sd.length, .no, .no, by omega, by simp [rg, List.range_eq_range'], by simp, by simp⟩
    rcases l with ⟨env', s', e, rfl, j, k, e4, e5, hjk, h4, hc, rfl⟩ | ⟨r, env', s', e, rfl, rfl⟩
    · have hk : k = 0 := by cases k with | zero => rfl | succ m => rw [List.range'_succ] at h4; cases h4
      subst hk
      obtain rfl : j = sd.length := by omega
      refine ⟨_, ?_, over_good h hM h3 h8 hc⟩
      simp only [lk, tI, List.map_replicate] at e e0
      have hm0 : (0 : Int) ≤ m := by omega
      simp [Fu.bLover, lk, tI, List.replicate, hM2, e0, hr, e, hm0, optA]
    · refine ⟨none, ?_, gd_none⟩
      simp only [lk, tI, List.map_replicate] at e e0
      simp [Fu.bLover, lk, tI, List.replicate, hM2, e0, hr, e, optA]
  · refine ⟨none, ?_, gd_none⟩
    cases sd with
    | nil => simp at hm
    | cons a r =>
      have e1 : rg (((a :: r).length : Nat) : Int) = 0 :: (List.range' 1 r.length).map fun (k : Nat) => (k : Int) := by
        simp [rg, List.range_eq_range', List.range'_succ]
      rw [e1] at hr
      have hm0 : (w.length : Int) - (a :: r).length < 0 := by omega
      have e0 : binR s .mul (.v (.tup [.int 0])) (.v (.int 0)) = some (.v (.tup [])) := by
        rw [b_tmul _ _ (by omega) (by omega) (szle (by simp))]
        simp
      have hm2 : ¬ 0 < (w.length : Int) - (a :: r).length := by omega
      generalize hq : (w.length : Int) - (a :: r).length = q at *
      have hq' : (w.length : Int) - ((r.length : Int) + 1) = q := by simp at hq; omega
      simp [Fu.bLover, lk, tI, List.replicate, hq, hq', hm0, hm2, e0, optA] at hr ⊢
      simp [hr, forL, loopF, Fu.bLover_1, hm0]
end LW

set_option maxRecDepth 100000
set_option maxHeartbeats 2000000
namespace LW
open EV PySem PySem.Spec
/-- the first place of one -/
def ix {A : Type} [DecidableEq A] (y : A) : List A → Option Nat
  | [] => none
  | z :: l => if z = y then some 0 else (ix y l).map (· + 1)
theorem ix_mem {A : Type} [DecidableEq A] {y : A} : ∀ {l : List A}, y ∈ l → ∃ j, ix y l = some j ∧ j < l.length ∧ l[j]? = some y
  | [], h => by cases h
  | z :: l, h => by
    by_cases c : z = y
    · exact ⟨0, by simp [ix, c], by simp, by simp [c]⟩
    · obtain ⟨j, h1, h2, h3⟩ := ix_mem (l := l) ((List.mem_cons.mp h).resolve_left (Ne.symm c))
      exact ⟨j + 1, by simp [ix, c, h1], by simpa using h2, by simpa using h3⟩
theorem ix_none {A : Type} [DecidableEq A] {y : A} : ∀ {l : List A}, y ∉ l → ix y l = none
  | [], _ => rfl
  | z :: l, h => by
    have c : z ≠ y := fun e => h (e ▸ List.mem_cons_self ..)
    simp [ix, c, ix_none fun q => h (List.mem_cons_of_mem _ q)]
theorem idxD_ix {A : Type} [DecidableEq A] (f : A → PyData) (hf : ∀ x y, PyData.eqv (f x) (f y) = decide (x = y)) (y : A) : ∀ l : List A, idxD (f y) (l.map f) = ix y l
  | [] => rfl
  | z :: l => by
    simp only [List.map_cons, idxD, ix, hf, idxD_ix f hf y l]
    by_cases c : z = y <;> simp [c]
/-- places as data -/
def tD (p : List Int) : PyData := .tuple (p.map .int)
theorem toDs_tups (f : Nat → Option PyData) : ∀ l : List (List Int), toDs f (l.map tI) = some (l.map tD)
  | [] => rfl
  | x :: l => by
    have e : toD f (tI x) = some (tD x) := by
      show (toDs f (x.map .int)).map PyData.tuple = _
      rw [toDs_ints]; rfl
    simp [toDs, e, toDs_tups f l]
theorem canLay_tups : ∀ l : List (List Int), PyData.canLayAll0 (l.map tD) = true
  | [] => by simp [PyData.canLayAll0]
  | x :: l => by simp [PyData.canLayAll0, tD, PyData.canLay0, canLay_ints, canLay_tups l]
theorem depth_tups : ∀ l : List (List Int), PyData.depthAll (l.map tD) ≤ 2
  | [] => by simp [PyData.depthAll]
  | x :: l => by
    have h1 := depth_tups l
    have h2 := depth_ints x
    simp [PyData.depthAll, PyData.depth, tD]
    omega
theorem shaped_ltups (l : List (List Int)) : SeqAt.shaped (.list (l.map tD)) = true := by
  have := depth_tups l
  unfold SeqAt.shaped
  simp [PyData.canLay0, canLay_tups, PyData.depth]
  omega
theorem shaped_tD (l : List Int) : SeqAt.shaped (tD l) = true := shaped_ints l
theorem dat_ltups (s : Sto) (l : List (List Int)) : dat s (.v (.lst (l.map tI))) = some (.list (l.map tD)) := by
  show (toDs (locD s 4) (l.map tI)).map PyData.list = _
  rw [toDs_tups]; rfl
theorem idx_tI (s : Sto) (l : List (List Int)) (p : List Int) : idxR s (.v (.lst (l.map tI))) (.v (tI p)) = (ix p l).map fun (j : Nat) => .v (.int (j : Int)) := by
  unfold idxR
  rw [dat_ltups, dat_tI]
  have e1 := shaped_ltups l
  have e2 := shaped_ints p
  simp only [e1, e2, Bool.and_self, if_true]
  rw [show (PyData.tuple (p.map .int)) = tD p from rfl, idxD_ix tD eqv_tints]
theorem int_eqv (x y : Int) : PyData.eqv (.int x) (.int y) = decide (x = y) := by
  simp only [PyData.eqv]; rfl
theorem sh_int (x : Int) : SeqAt.shaped (.int x) = true := rfl
theorem idx_int (s : Sto) (l : List Int) (hl : l.length ≤ 4096) (p : Int) : idxR s (.v (.lst (l.map .int))) (.v (.int p)) = (ix p l).map fun (j : Nat) => .v (.int (j : Int)) := by
  unfold idxR
  rw [dat_lI]
  have e1 := shaped_lints l hl
  have e3 : dat s (.v (.int p)) = some (.int p) := rfl
  rw [e3]
  simp only [e1, sh_int, Bool.and_self, if_true]
  rw [idxD_ix PyData.int int_eqv]
theorem in_int (s : Sto) (l : List Int) (hl : l.length ≤ 4096) (p : Int) : inR s (.v (.int p)) (.v (.lst (l.map .int))) = some (decide (p ∈ l)) := by
  unfold inR
  rw [dat_lI]
  have e1 := shaped_lints l hl
  have e3 : dat s (.v (.int p)) = some (.int p) := rfl
  rw [e3]
  simp only [e1, sh_int, Bool.and_self, if_true]
  congr 1
  rw [List.any_map]
  induction l with
  | nil => simp
  | cons z l ih =>
    have := ih (by simp at hl; omega) (shaped_lints l (by simp at hl; omega))
    simp only [List.any_cons, this, Function.comp_apply, int_eqv, List.mem_cons]
    by_cases c : z = p
    · simp [c]
    · simp [c, Ne.symm c]
/-- a look by its cells -/
theorem gd_of {st : Int} {sd sp : List Int} (h : Lb sd sp) (hc : ∀ c ∈ cs st sd sp, 0 ≤ c ∧ c < 512) : Gd (some (st, sd, sp)) := by
  rintro _ _ _ ⟨⟩
  refine ⟨h, ?_⟩
  by_cases hz : pr sd = 0
  · exact .inl hz
  · right
    have hp : ∀ x ∈ sd, 1 ≤ x := fun x hx => by
      have := (h.h2 x hx).1
      have : x ≠ 0 := fun e => hz (pr_zero.mpr (e ▸ hx))
      omega
    obtain ⟨p, hp1, e1⟩ := lo_at hp h.h3
    obtain ⟨q, hq1, e2⟩ := hi_at hp h.h3
    have c1 := hc (st + zs (· * ·) p sp) (List.mem_map.mpr ⟨p, hp1, rfl⟩)
    have c2 := hc (st + zs (· * ·) q sp) (List.mem_map.mpr ⟨q, hq1, rfl⟩)
    omega
theorem Lcellsb_ (d : Nat) {st : Int} {sd sp : List Int} (h : Lb sd sp) (s : Sto) : call Fu.tb (d + 5) .Lcells [lk st sd sp] s = .ok (.tl (.lst ((cs st sd sp).map .int))) s := by
  rw [call_eq rfl rfl]
  have hl := h.h1
  have e1 := Lplaces_ sd (d + 4 - 1 - sd.length) s h.h1 h.h2
  rw [show d + 4 - 1 - sd.length + sd.length + 1 = d + 4 by omega] at e1
  have e3 : subR s (.v (lk st sd sp)) (.v (.int 1)) = some (.v (tI sd)) := by simp [lk]
  simp [Fu.bLcells, e3, e1]
  rw [lcL_map (fun v => match v with | .tup l => .int (match intsOf l with | some p => st + zs (· * ·) p sp | none => 0) | v => v)]
  · simp [cs, tI, Function.comp_def]
  · intro v hv
    obtain ⟨p, hp, rfl⟩ := List.mem_map.mp hv
    obtain ⟨q1, q2⟩ := pl_mem sd h.h2 p hp
    have := Lcell_ (d + 3) (st := st) (sd := sd) (sp := sp) s (by rw [q1]; exact h.h1) q2 (by rw [q1, h.h3])
    unfold tI at this ⊢
    simp [lcF, this]
  · rw [List.length_map]
    exact szle (Nat.le_trans (pl_512 h.h1 h.h2) (by decide))
theorem Lplaces' (d : Nat) {sd : List Int} (h1 : sd.length ≤ 3) (h2 : ∀ x ∈ sd, 0 ≤ x ∧ x ≤ 8) (s : Sto) : call Fu.tb (d + 4) .Lplaces [tI sd] s = .ok (.tl (.lst ((pl sd).map tI))) s := by
  have e1 := Lplaces_ sd (d + 4 - 1 - sd.length) s h1 h2
  rwa [show d + 4 - 1 - sd.length + sd.length + 1 = d + 4 by omega] at e1
theorem cs_len (st : Int) (sd sp : List Int) : (cs st sd sp).length = (pl sd).length := by simp [cs]
end LW

set_option maxRecDepth 100000
set_option maxHeartbeats 2000000
namespace LW
open EV PySem PySem.Spec
def mt (k n : Nat) : List Int := (rg n).map fun i => if i = (k : Int) then 1 else 0
theorem mt_in {w : List Int} {k : Nat} (hk : k < w.length) (h1 : 1 < w[k]) {q : List Int} (hq : q ∈ pl w) : mt k w.length ∈ pl w := by
  refine pl_in (by simp [mt, rg_len]) fun i q1 q2 => ?_
  obtain ⟨l1, l2⟩ := pl_lt hq
  have := l2 i q[i] w[i] (by simp) (by simp)
  simp only [mt, rg, List.getElem_map, List.getElem_range]
  by_cases c : i = k
  · subst c; simp; omega
  · have : ¬ (i : Int) = k := by omega
    simp [this]; omega
theorem Lshaped_ (d : Nat) {st : Int} {sd sp : List Int} (h : Lk st sd sp) (w : List Int) (h3 : w.length ≤ 3) (h8 : ∀ x ∈ w, 0 ≤ x ∧ x ≤ 8) (s : Sto) : ∃ r : Option Lo, call Fu.tb (d + 6) .Lshaped [lk st sd sp, tI w] s = .ok (.v (optA r)) s ∧ Gd r := by
  rw [call_eq rfl rfl]
  have e1 := Lcellsb_ d h.lb (st := st) s
  have e2 := Lplaces' (d + 1) h3 h8 s
  have b1 := pl_512 h.h1 h.h2
  have b2 := pl_512 h3 h8
  have hcl := cs_len st sd sp
  have hcell := h.cell
  have hq0 := q_lints s (cs st sd sp) [] (by omega) (by simp)
  simp only [List.map_nil] at hq0
  by_cases hl : (cs st sd sp).length = (pl w).length
  · have hl' : ((cs st sd sp).length : Int) = (pl w).length := by omega
    by_cases hn : cs st sd sp = []
    · refine ⟨some (st, w, List.replicate w.length 0), ?_, gd_of ⟨h3, h8, by simp⟩ fun c hc => ?_⟩
      · have hl2 : (pl w).length = 0 := by rw [← hl, hn]; rfl
        have e0 : binR s .mul (.v (.tup [.int 0])) (.v (.int (w.length : Int))) = some (.v (.tup (List.replicate w.length (.int 0)))) := by
          rw [b_tmul _ _ (by omega) (by omega) (szle (by simp; omega))]
          simp
        have hpw : pl w = [] := List.eq_nil_of_length_eq_zero hl2
        rw [hn] at e1
        rw [hpw] at e2
        simp only [lk, tI] at e1 e2
        simp [Fu.bLshaped, lk, tI, List.replicate, e1, e2, e0, optA]
      · have hl2 : (pl w).length = 0 := by rw [← hl, hn]; rfl
        have hpw : pl w = [] := List.eq_nil_of_length_eq_zero hl2
        simp [cs, hpw] at hc
    · obtain ⟨c0, cr, hcs⟩ : ∃ c0 cr, cs st sd sp = c0 :: cr := by
        cases hx : cs st sd sp with
        | nil => exact absurd hx hn
        | cons a b => exact ⟨a, b, rfl⟩
      obtain ⟨q, hq⟩ : ∃ q, q ∈ pl w := by
        cases hx : pl w with
        | nil => rw [hx, hcs] at hl; simp at hl
        | cons a b => exact ⟨a, by simp⟩
      have hrg := rng_rg (a := (w.length : Int)) (by omega) (by omega)
      obtain ⟨env', s', e, rfl, j, k, T, e5, e7, e8, hjk, h4, hT, rfl⟩ := forL_ind (f := loopF (call Fu.tb (d + 5)) (.nm 5) Fu.bLshaped_1) (fun l env t => t = s ∧ ∃ (j k : Nat) (T : List Int) (e5 e7 e8 : Sl), j + k = w.length ∧ l = ((List.range' j k).map fun (k : Nat) => (k : Int)).map .int ∧ T.length = j ∧ env = [.v (lk st sd sp), .v (tI w), .v (.lst ((cs st sd sp).map .int)), .v (.lst ((pl w).map tI)), .v (tI T), e5, .no, e7, e8, .no]) (by
        rintro x l env s ⟨rfl, j, k, T, e5, e7, e8, hjk, h4, hT, rfl⟩
        cases k with
        | zero => cases h4
        | succ k =>
          rw [List.range'_succ] at h4
          cases h4
          have hj : j < w.length := by omega
          have a1 : L2.atI (w.map AV.int) (j : Int) = some (.int w[j]) := at_nat rfl (by simp [hj])
          have hs : T.length + 1 ≤ sizeLine := szle (by omega)
          have hlc : lcL (lcF (call Fu.tb (d + 5)) [.v (lk st sd sp), .v (tI w), .v (.lst ((cs st sd sp).map .int)), .v (.lst ((pl w).map tI)), .v (tI T), .v (.int j), .no, e7, e8, .no] (.nm 9) .none (.op1 .intb (.cmp .eq (.var 9) (.var 5)))) [] ((rg w.length).map .int) s = .ok ((mt j w.length).map .int) s := by
            rw [lcR (fun i => .int (if i = (j : Int) then 1 else 0)) (by omega) (by omega)]
            · simp [mt, Function.comp_def]
            · intro i _ _
              simp [lcF]
          simp only [lk, tI] at hlc
          by_cases c : 1 < w[j]
          · obtain ⟨n, i1, i2, i3⟩ := ix_mem (mt_in hj c hq)
            have i4 := idx_tI s (pl w) (mt j w.length)
            rw [i1] at i4
            simp only [tI] at i4
            have hn' : n < (cs st sd sp).length := by omega
            have a2 : L2.atI ((cs st sd sp).map AV.int) (n : Int) = some (.int (cs st sd sp)[n]) := at_nat rfl (by simp [hn'])
            have a3 : L2.atI ((cs st sd sp).map AV.int) 0 = some (.int c0) := by rw [hcs]; simp
            refine ⟨[.v (lk st sd sp), .v (tI w), .v (.lst ((cs st sd sp).map .int)), .v (.lst ((pl w).map tI)), .v (tI (T ++ [(cs st sd sp)[n] - c0])), .v (.int j), .no, .v (tI (mt j w.length)), .v (.int ((cs st sd sp)[n] - c0)), .no], s, ?_, rfl, j + 1, k, _, _, _, _, by omega, rfl, by simp [hT], rfl⟩
            simp [loopF, Fu.bLshaped_1, lk, tI, a1, hrg, hlc, biR, c, i4, a2, a3, hs]
          · refine ⟨[.v (lk st sd sp), .v (tI w), .v (.lst ((cs st sd sp).map .int)), .v (.lst ((pl w).map tI)), .v (tI (T ++ [0])), .v (.int j), .no, .v (tI (mt j w.length)), .v (.int 0), .no], s, ?_, rfl, j + 1, k, _, _, _, _, by omega, rfl, by simp [hT], rfl⟩
            simp [loopF, Fu.bLshaped_1, lk, tI, a1, hrg, hlc, biR, c, hs]) ((rg w.length).map .int) [.v (lk st sd sp), .v (tI w), .v (.lst ((cs st sd sp).map .int)), .v (.lst ((pl w).map tI)), .v (tI []), .no, .no, .no, .no, .no] s ⟨rfl, 0, w.length, [], .no, .no, .no, by omega, by simp [rg, List.range_eq_range'], rfl, rfl⟩
      have hk : k = 0 := by cases k with | zero => rfl | succ m => rw [List.range'_succ] at h4; cases h4
      subst hk
      have hTw : T.length = w.length := by omega
      have e6 := Lcellsb_ d (st := c0) (sd := w) (sp := T) ⟨h3, h8, hTw⟩ s'
      have hq1 := q_lints s' (cs c0 w T) (cs st sd sp) (by rw [cs_len]; omega) (by omega)
      have a3 : L2.atI ((cs st sd sp).map AV.int) 0 = some (.int c0) := by rw [hcs]; simp
      simp only [lk, tI] at e e1 e2 e6
      simp only [List.map_nil] at e
      by_cases hg : cs c0 w T = cs st sd sp
      · refine ⟨some (c0, w, T), ?_, gd_of ⟨h3, h8, hTw⟩ fun c hc => hcell c (hg ▸ hc)⟩
        rw [hg] at hq1 e6
        simp [Fu.bLshaped, lk, tI, List.replicate, e1, e2, hl', hq0, hn, hrg, e, a3, e6, hq1, optA]
      · refine ⟨none, ?_, gd_none⟩
        simp [Fu.bLshaped, lk, tI, List.replicate, e1, e2, hl', hq0, hn, hrg, e, a3, e6, hq1, hg, optA]
  · refine ⟨none, ?_, gd_none⟩
    have hl' : ¬ ((cs st sd sp).length : Int) = (pl w).length := by omega
    simp only [lk, tI] at e1 e2
    simp [Fu.bLshaped, lk, tI, List.replicate, e1, e2, hl', optA]
end LW

set_option maxRecDepth 100000
set_option maxHeartbeats 2000000
namespace LW
open EV PySem PySem.Spec
theorem Lled_ovr (d : Nat) {st : Int} {sd sp : List Int} (h : Lk st sd sp) (w : List Int) (hw : (Wy.ovr w).ok) (s : Sto) : ∃ r : Option Lo, call Fu.tb (d + 7) .Lled [lk st sd sp, (Wy.ovr w).av] s = .ok (.v (optA r)) s ∧ Gd r := by
  have hl : w.length ≤ 1000 := hw.1
  rw [call_eq rfl rfl]
  have i1 := (in_cp s).2.2.2.1
  have q1 := (q_o s).1
  have q2 := (q_o s).2.1
  have q3 := (q_o s).2.2.1
  have q4 := (q_o s).2.2.2
  obtain ⟨out, c1, c2, c3⟩ := lc_bad (f := lcF (call Fu.tb (d + 6)) [.v (lk st sd sp), .v (Wy.ovr w).av, .v (.int st), .v (tI sd), .v (tI sp), .no, .no, .no, .no, .no, .no, .no, .no] (.nm 12) (.some (.not (.ch2 .le .le (.cst (.int 0)) (.var 12) (.cst (.int 8))))) (.var 12)) (s := s) (fun x => 0 ≤ x ∧ x ≤ 8) w (by omega) (fun x hx => by
      by_cases x1 : 0 ≤ x
      · by_cases x2 : x ≤ 8 <;> simp [lcF, x1, x2]
      · simp [lcF, x1])
  have q5 := q_lints s out [] (by omega) (by simp)
  simp only [List.map_nil] at q5
  simp only [lk, Wy.av, tI] at c1
  by_cases h3 : w.length ≤ 3
  · have h3' : ¬ (3 < (w.length : Int)) := by omega
    by_cases hx : ∀ x ∈ w, 0 ≤ x ∧ x ≤ 8
    · have ho := c2.mpr hx
      subst ho
      obtain ⟨r, e, g⟩ := Lover_ (d + 5) h w h3 hx s
      refine ⟨r, ?_, g⟩
      simp only [lk, tI] at e
      simp [Fu.bLled, lk, Wy.av, tI, List.replicate, i1, q1, q2, q3, q4, c1, q5, h3', e]
    · have ho : out ≠ [] := fun z => hx (c2.mp z)
      refine ⟨none, ?_, gd_none⟩
      simp [Fu.bLled, lk, Wy.av, tI, List.replicate, i1, q1, q2, q3, c1, q5, h3', ho, optA]
  · have h3' : (3 < (w.length : Int)) := by omega
    refine ⟨none, ?_, gd_none⟩
    simp [Fu.bLled, lk, Wy.av, tI, List.replicate, i1, q1, q2, q3, h3', optA]
theorem Lled_shp (d : Nat) {st : Int} {sd sp : List Int} (h : Lk st sd sp) (w : List Int) (hw : (Wy.shp w).ok) (s : Sto) : ∃ r : Option Lo, call Fu.tb (d + 7) .Lled [lk st sd sp, (Wy.shp w).av] s = .ok (.v (optA r)) s ∧ Gd r := by
  have hl : w.length ≤ 1000 := hw.1
  rw [call_eq rfl rfl]
  have i1 := (in_cp s).2.2.2.2
  have q1 := (q_s s).1
  have q2 := (q_s s).2.1
  have q3 := (q_s s).2.2.1
  have q4 := (q_s s).2.2.2
  obtain ⟨out, c1, c2, c3⟩ := lc_bad (f := lcF (call Fu.tb (d + 6)) [.v (lk st sd sp), .v (Wy.shp w).av, .v (.int st), .v (tI sd), .v (tI sp), .no, .no, .no, .no, .no, .no, .no, .no] (.nm 12) (.some (.not (.ch2 .le .le (.cst (.int 0)) (.var 12) (.cst (.int 8))))) (.var 12)) (s := s) (fun x => 0 ≤ x ∧ x ≤ 8) w (by omega) (fun x hx => by
      by_cases x1 : 0 ≤ x
      · by_cases x2 : x ≤ 8 <;> simp [lcF, x1, x2]
      · simp [lcF, x1])
  have q5 := q_lints s out [] (by omega) (by simp)
  simp only [List.map_nil] at q5
  simp only [lk, Wy.av, tI] at c1
  by_cases h3 : w.length ≤ 3
  · have h3' : ¬ (3 < (w.length : Int)) := by omega
    by_cases hx : ∀ x ∈ w, 0 ≤ x ∧ x ≤ 8
    · have ho := c2.mpr hx
      subst ho
      obtain ⟨r, e, g⟩ := Lshaped_ d h w h3 hx s
      refine ⟨r, ?_, g⟩
      simp only [lk, tI] at e
      simp [Fu.bLled, lk, Wy.av, tI, List.replicate, i1, q1, q2, q3, q4, c1, q5, h3', e]
    · have ho : out ≠ [] := fun z => hx (c2.mp z)
      refine ⟨none, ?_, gd_none⟩
      simp [Fu.bLled, lk, Wy.av, tI, List.replicate, i1, q1, q2, q3, c1, q5, h3', ho, optA]
  · have h3' : (3 < (w.length : Int)) := by omega
    refine ⟨none, ?_, gd_none⟩
    simp [Fu.bLled, lk, Wy.av, tI, List.replicate, i1, q1, q2, q3, h3', optA]
theorem Lled_ (d : Nat) {st : Int} {sd sp : List Int} (h : Lk st sd sp) (w : Wy) (hw : w.ok) (s : Sto) : ∃ r : Option Lo, call Fu.tb (d + 7) .Lled [lk st sd sp, w.av] s = .ok (.v (optA r)) s ∧ Gd r := by
  cases w with
  | cut k b e t => exact Lled_cut (d + 6) h k b e t hw s
  | pick k p => exact Lled_pick (d + 6) h k p hw s
  | trn o => exact Lled_trn (d + 6) h o hw s
  | ovr w => exact Lled_ovr d h w hw s
  | shp w => exact Lled_shp d h w hw s
/-- a look, or none -/
def Ok (o : Option Lo) : Prop := ∀ a b c, o = some (a, b, c) → Lk a b c
theorem Lthrough_ (d : Nat) {st : Int} {sd sp : List Int} (h : Lk st sd sp) (w : Wy) (hw : w.ok) (s : Sto) : ∃ r : Option Lo, call Fu.tb (d + 8) .Lthrough [lk st sd sp, w.av] s = .ok (.v (optA r)) s ∧ Ok r := by
  rw [call_eq rfl rfl]
  obtain ⟨r, e, g⟩ := Lled_ d h w hw s
  cases r with
  | none =>
    refine ⟨none, ?_, fun _ _ _ h => by cases h⟩
    simp only [optA] at e
    simp [Fu.bLthrough, List.replicate, e, optA]
  | some o =>
    obtain ⟨a, b, c⟩ := o
    obtain ⟨g1, g2⟩ := g a b c rfl
    have gl := g1.h3
    have gl1 := g1.h1
    obtain ⟨out, c1, c2, c3⟩ := lc_bad (f := lcF (call Fu.tb (d + 7)) [.v (lk st sd sp), .v w.av, .v (lk a b c), .no] (.nm 3) (.some (.not (.ch2 .le .le (.bin .sub (.cst (.int 0)) (.cst (.int 512))) (.var 3) (.cst (.int 512))))) (.var 3)) (s := s) (fun x => -512 ≤ x ∧ x ≤ 512) c (by omega) (fun x hx => by
      by_cases x1 : -512 ≤ x
      · by_cases x2 : x ≤ 512 <;> simp [lcF, x1, x2]
      · simp [lcF, x1])
    have q5 := q_lints s out [] (by omega) (by simp)
    simp only [List.map_nil] at q5
    simp only [lk, tI, optA] at c1 e
    by_cases a0 : 0 ≤ a
    · by_cases a1 : a < 512
      · by_cases hx : ∀ x ∈ c, -512 ≤ x ∧ x ≤ 512
        · have ho := c2.mpr hx
          subst ho
          refine ⟨some (a, b, c), ?_, ?_⟩
          · simp [Fu.bLthrough, lk, tI, List.replicate, e, optA, a0, a1, c1, q5, isNon]
          · rintro _ _ _ ⟨⟩
            refine ⟨g1.h1, g1.h2, g1.h3, hx, by omega, ?_⟩
            rcases g2 with g2 | g2
            · exact .inl g2
            · refine .inr ⟨g2.1, ?_, g2.2⟩
              have : ∀ l m : List Int, zs lo1 l m ≤ zs hi1 l m := by
                intro l
                induction l with
                | nil => intro m; simp [zs]
                | cons x l ih =>
                  intro m
                  cases m with
                  | nil => simp [zs]
                  | cons y m =>
                    have := ih m
                    simp only [zs, lo1, hi1]
                    omega
              have := this b c
              omega
        · have ho : out ≠ [] := fun z => hx (c2.mp z)
          refine ⟨none, ?_, fun _ _ _ h => by cases h⟩
          simp [Fu.bLthrough, lk, tI, List.replicate, e, optA, a0, a1, c1, q5, ho, isNon]
      · refine ⟨none, ?_, fun _ _ _ h => by cases h⟩
        simp [Fu.bLthrough, lk, tI, List.replicate, e, optA, a0, a1, isNon]
    · refine ⟨none, ?_, fun _ _ _ h => by cases h⟩
      simp [Fu.bLthrough, lk, tI, List.replicate, e, optA, a0, isNon]
end LW

set_option maxRecDepth 100000
set_option maxHeartbeats 2000000
namespace LW
open EV PySem PySem.Spec
theorem fgo {F : Type} {C : Cf F} {env env' : EV.Env} {s s' : Sto} {st : S F} {ss : Ss F} {X : Rs R} (h : ex C env st s = .ok (.nx, env') s') (k : fin (exs C env' ss s') = X) : fin (exs C env (.cons st ss) s) = X := by
  rw [xs_cons, h]
  exact k
theorem cutA_map {A B : Type} (f : A → B) (l : List A) (a b : Option Int) : cutA (l.map f) a b = (cutA l a b).map f := by
  unfold cutA
  simp [List.map_take, List.map_drop]
theorem cutA_mem {A : Type} {l : List A} {a b : Option Int} {x : A} (h : x ∈ cutA l a b) : x ∈ l := List.mem_of_mem_drop (List.mem_of_mem_take h)
theorem cutA_len {A : Type} (l : List A) (a b : Option Int) : (cutA l a b).length ≤ l.length := by
  unfold cutA
  rw [List.length_take, List.length_drop]
  omega
theorem lc_keep {f : AV → Sto → Rs (Option AV)} {s : Sto} (P : Int → Prop) [DecidablePred P] (g : Int → List Int) (l : List Int) (hl : l.length ≤ 4096) (h : ∀ x ∈ l, f (.int x) s = .ok (if P x then some (tI (g x)) else none) s) : ∃ ps : List (List Int), lcL f [] (l.map .int) s = .ok (ps.map tI) s ∧ (∀ p ∈ ps, ∃ x ∈ l, p = g x) ∧ ps.length ≤ l.length := by
  refine ⟨(l.filter fun x => decide (P x)).map g, ?_, ?_, by simpa using List.length_filter_le _ _⟩
  · rw [lcL_filter (fun v => match v with | .int x => if P x then some (tI (g x)) else none | _ => none) _ [] s ?_ (by simpa using szle hl)]
    · congr 1
      simp only [List.nil_append, List.filterMap_map]
      clear h hl
      induction l with
      | nil => rfl
      | cons x l ih =>
        by_cases hx : P x
        · simp [hx] at ih ⊢; exact ih
        · simp [hx] at ih ⊢; exact ih
    · intro v hv
      obtain ⟨x, hx, rfl⟩ := List.mem_map.mp hv
      exact h x hx
  · intro p hp
    obtain ⟨x, hx, rfl⟩ := List.mem_map.mp hp
    exact ⟨x, (List.mem_filter.mp hx).1, rfl⟩
theorem lc_flt {f : AV → Sto → Rs (Option AV)} {s : Sto} (P : Int → Prop) [DecidablePred P] (l : List Int) (hl : l.length ≤ 4096) (h : ∀ x ∈ l, f (.int x) s = .ok (if P x then some (.int x) else none) s) : lcL f [] (l.map .int) s = .ok ((l.filter fun x => decide (P x)).map .int) s := by
  rw [lcL_filter (fun v => match v with | .int x => if P x then some (.int x) else none | _ => none) _ [] s ?_ (by simpa using szle hl)]
  · congr 1
    simp only [List.nil_append, List.filterMap_map]
    clear h hl
    induction l with
    | nil => rfl
    | cons x l ih =>
      by_cases hx : P x
      · simp [hx] at ih ⊢; exact ih
      · simp [hx] at ih ⊢; exact ih
  · intro v hv
    obtain ⟨x, hx, rfl⟩ := List.mem_map.mp hv
    exact h x hx
theorem pr_le : ∀ {sd : List Int}, (∀ x ∈ sd, 0 ≤ x ∧ x ≤ 8) → 0 ≤ pr sd ∧ pr sd ≤ 8 ^ sd.length
  | [], _ => by simp [pr]
  | x :: l, h => by
    have ih := pr_le (sd := l) fun y hy => h y (List.mem_cons_of_mem _ hy)
    have hx := h x (List.mem_cons_self ..)
    refine ⟨Int.mul_nonneg hx.1 ih.1, ?_⟩
    have := Int.mul_le_mul hx.2 ih.2 ih.1 (by omega)
    simp only [pr, List.length_cons, Int.pow_succ]
    rw [Int.mul_comm (8 ^ _) 8]
    exact this
theorem pr_512 {sd : List Int} (h1 : sd.length ≤ 3) (h2 : ∀ x ∈ sd, 0 ≤ x ∧ x ≤ 8) : 0 ≤ pr sd ∧ pr sd ≤ 512 := by
  obtain ⟨a, b⟩ := pr_le h2
  refine ⟨a, ?_⟩
  have : sd.length = 0 ∨ sd.length = 1 ∨ sd.length = 2 ∨ sd.length = 3 := by omega
  rcases this with h | h | h | h <;> rw [h] at b <;> omega
def Bd (p : List Int) : Prop := p.length ≤ 10 ∧ ∀ x ∈ p, -10000 ≤ x ∧ x ≤ 10000
theorem bd_cons {x : Int} {p : List Int} (h : p.length ≤ 9 ∧ ∀ x ∈ p, -10000 ≤ x ∧ x ≤ 10000) (hx : -10000 ≤ x ∧ x ≤ 10000) : Bd (x :: p) := by
  refine ⟨by simp; omega, fun y hy => ?_⟩
  rcases List.mem_cons.mp hy with rfl | hy
  · exact hx
  · exact h.2 y hy
theorem div_b {m j : Int} (h0 : 0 ≤ m) (hj : 1 ≤ j) : 0 ≤ m / j ∧ m / j ≤ m :=
  ⟨Int.ediv_nonneg h0 (by omega), Int.ediv_le_self _ h0⟩
variable {ns : List Int} {rest : List Ob}
theorem Lother_sides_ (d : Nat) {s : Sto} (hs : Dr ns rest s) {sd : List Int} (h1 : sd.length ≤ 3) (h2 : ∀ x ∈ sd, 0 ≤ x ∧ x ≤ 8) :
    ∃ w s', call Fu.tb (d + 2) .Lother_sides [.loc 0, tI sd] s = .ok (.v (tI w)) s' ∧ Bd w ∧ Dr ns rest s' := by
  rw [call_eq rfl rfl]
  obtain ⟨e3, hf⟩ := forL_fold (f := loopF (call Fu.tb (d + 1)) (.nm 3) Fu.bLother_sides_1) (fun (a : Int) e => [.v (.loc 0), .v (tI sd), .v (.int a), e, .no, .no, .no]) mulA s (sd.map AV.int) 1 .no (by
    intro x a e hx
    obtain ⟨y, hy, rfl⟩ := List.mem_map.mp hx
    have := h2 y hy
    have : mulOk a y = true := by unfold mulOk; simp; omega
    simp [loopF, Fu.bLother_sides_1, this, mulA])
  rw [pr_fold, Int.one_mul] at hf
  obtain ⟨p0, p1⟩ := pr_512 h1 h2
  generalize pr sd = m at *
  have hrg : rngL 1 9 = ([1, 2, 3, 4, 5, 6, 7, 8] : List Int).map .int := rfl
  have hr2 : rngR 2 [.v (.int 1), .v (.int 9)] = some (([1, 2, 3, 4, 5, 6, 7, 8] : List Int).map .int) := rfl
  obtain ⟨ps, k1, k2, k3⟩ := lc_keep (f := lcF (call Fu.tb (d + 1)) [.v (.loc 0), .v (tI sd), .v (.int m), e3, .no, .no, .no] (.nm 5) (.some (.and (.cons (.cmp .eq (.bin .mod (.var 2) (.var 5)) (.cst (.int 0))) (.cons (.cmp .le (.bin .fdiv (.var 2) (.var 5)) (.cst (.int 8))) .nil)))) (.tup (.cons (.var 5) (.cons (.bin .fdiv (.var 2) (.var 5)) .nil)))) (s := s) (fun i => m % i = 0 ∧ m / i ≤ 8) (fun i => [i, m / i]) [1, 2, 3, 4, 5, 6, 7, 8] (by decide) (fun x hx => by
    have hx1 : 0 < x ∧ x < 1073741824 := by simp at hx; omega
    by_cases c1 : m % x = 0
    · by_cases c2 : m / x ≤ 8
      · simp [lcF, hx1.1, hx1.2, c1, c2, tI]
      · simp [lcF, hx1.1, hx1.2, c1, c2]
    · simp [lcF, hx1.1, hx1.2, c1])
  have k3 : ps.length ≤ 8 := by simpa using k3
  have kf := lc_flt (f := lcF (call Fu.tb (d + 1)) [.v (.loc 0), .v (tI sd), .v (.int m), e3, .v (.lst (ps.map tI)), .no, .no] (.nm 5) (.some (.cmp .ne (.var 5) (.cst (.int 1)))) (.var 5)) (s := s) (fun x => x ≠ 1) sd (by omega) (fun x hx => by
    by_cases c : x = 1 <;> simp [lcF, c])
  obtain ⟨x1, s1, d1, a1, b1, D1⟩ := Ldrawn_ d hs 4 (by decide) (by decide)
  obtain ⟨x2, s2, d2, a2, b2, D2⟩ := Ldrawn_ d D1 4 (by decide) (by decide)
  let L1 : List (List Int) := [sd.reverse, 1 :: cutA sd none (some 2), sd.filter fun x => decide (x ≠ 1)]
  let M2 : List (List Int) := [[2, 2, m / 4], [1 + x1, 1 + x2, m / ((1 + x1) * (1 + x2))], [m / ((1 + x1) * (1 + x2)), 1 + x1, 1 + x2]]
  have hq : ∃ qs : List (List Int), qs = ps  ++ L1 ++ M2 := ⟨_, rfl⟩
  obtain ⟨qs, hq⟩ := hq
  have hql : qs.length = ps.length + 6 := by rw [hq]; simp [L1, M2]
  obtain ⟨x3, s3, d3, a3, b3, D3⟩ := Ldrawn_ d D2 (qs.length : Int) (by omega) (by omega)
  have hi : x3.toNat < qs.length := by omega
  have e4 : L2.atI (qs.map tI) x3 = some (tI qs[x3.toNat]) := at_nat (n := x3.toNat) (by omega) (by simp [hi])
  have hxy : 1 ≤ (1 + x1) * (1 + x2) ∧ (1 + x1) * (1 + x2) ≤ 16 := by
    have u1 := Int.mul_le_mul (a := 1) (b := 1) (c := 1 + x1) (d := 1 + x2) (by omega) (by omega) (by omega) (by omega)
    have u2 := Int.mul_le_mul (a := 1 + x1) (b := 1 + x2) (c := 4) (d := 4) (by omega) (by omega) (by omega) (by omega)
    omega
  have hm : mulOk (1 + x1) (1 + x2) = true := by unfold mulOk; simp; omega
  have hc2 := cutA_len sd none (some 2)
  refine ⟨qs[x3.toNat], s3, ?_, ?_, D3⟩
  · unfold Fu.bLother_sides
    refine fgo (env' := [.v (.loc 0), .v (tI sd), .v (.int 1), .no, .no, .no, .no]) (s' := s) (by simp [tI, List.replicate]) ?_
    refine fgo (env' := [.v (.loc 0), .v (tI sd), .v (.int m), e3, .no, .no, .no]) (s' := s) (by
      simp only [tI] at hf
      simp [tI, hf]) ?_
    refine fgo (env' := [.v (.loc 0), .v (tI sd), .v (.int m), e3, .v (.lst (ps.map tI)), .no, .no]) (s' := s) (by
      simp only [x_set, e_lc, ei_rng, es_cons, es_nil, e_cst, Rs.bind_ok, fz_v, hr2, Rs.of_some, k1, fz_tl, av_lst, toA_v]
      rfl) ?_
    refine fgo (env' := [.v (.loc 0), .v (tI sd), .v (.int m), e3, .v (.lst ((ps ++ L1).map tI)), .no, .no]) (s' := s) (by
      have z0 : ps.length + 3 ≤ sizeLine := szle (by omega)
      have z1 : 1 + (cutA sd none (some 2)).length ≤ sizeLine := szle (by omega)
      have z2 : (cutA sd none (some 2)).length + 1 ≤ sizeLine := szle (by omega)
      have cm := cutA_map AV.int sd none (some 2)
      simp only [tI] at kf
      simp [tI, L1, z0, z1, z2, cm, kf, biR]) ?_
    refine fgo (env' := [.v (.loc 0), .v (tI sd), .v (.int m), e3, .v (.lst ((ps ++ L1).map tI)), .v (.int (1 + x1)), .v (.int (1 + x2))]) (s' := s2) (by
      simp [d1, d2]) ?_
    refine fgo (env' := [.v (.loc 0), .v (tI sd), .v (.int m), e3, .v (.lst (qs.map tI)), .v (.int (1 + x1)), .v (.int (1 + x2))]) (s' := s2) (by
      have z0 : (ps ++ L1).length + 3 ≤ sizeLine := szle (by simp [L1]; omega)
      have hxy0 : 0 < (1 + x1) * (1 + x2) ∧ (1 + x1) * (1 + x2) < 1073741824 := by omega
      rw [hq]
      generalize ps ++ L1 = l1 at *
      simp [tI, M2, z0, hm, hxy0.1, hxy0.2]) ?_
    skip
    simp [d3, e4]
  · have hmem : qs[x3.toNat] ∈ qs := List.getElem_mem hi
    generalize qs[x3.toNat] = w at hmem ⊢
    rw [hq] at hmem
    have hsd : ∀ x ∈ sd, -10000 ≤ x ∧ x ≤ 10000 := fun x hx => by have := h2 x hx; omega
    rcases List.mem_append.mp hmem with hmem | hmem
    · rcases List.mem_append.mp hmem with hmem | hmem
      · obtain ⟨i, i1, rfl⟩ := k2 w hmem
        have i2 : 1 ≤ i ∧ i ≤ 8 := by simp at i1; omega
        have := div_b p0 i2.1
        refine ⟨by simp, fun x hx => ?_⟩
        simp at hx
        omega
      · simp only [L1, List.mem_cons, List.not_mem_nil, or_false] at hmem
        rcases hmem with rfl | rfl | rfl
        · exact ⟨by simp; omega, fun x hx => hsd x (by simpa using hx)⟩
        · exact bd_cons ⟨by omega, fun x hx => hsd x (cutA_mem hx)⟩ (by omega)
        · exact ⟨Nat.le_trans (List.length_filter_le _ _) (by omega), fun x hx => hsd x (List.mem_filter.mp hx).1⟩
    · have g1 := div_b p0 (by omega : (1 : Int) ≤ 4)
      have g2 := div_b p0 hxy.1
      simp only [M2, List.mem_cons, List.not_mem_nil, or_false] at hmem
      rcases hmem with rfl | rfl | rfl
      all_goals
        refine ⟨by simp, fun x hx => ?_⟩
        simp at hx
        omega
end LW

set_option maxRecDepth 100000
set_option maxHeartbeats 2000000
namespace LW
open EV PySem PySem.Spec
variable {ns : List Int} {rest : List Ob}
theorem lcL_ind {f : AV → Sto → Rs (Option AV)} (P : List AV → List AV → Sto → Prop) (h : ∀ x l acc s, P (x :: l) acc s → ∃ a s', f x s = .ok (some a) s' ∧ acc.length < sizeLine ∧ P l (acc ++ [a]) s') : ∀ (l acc : List AV) (s : Sto), P l acc s → ∃ out s', lcL f acc l s = .ok out s' ∧ P [] out s'
  | [], acc, s, q => ⟨acc, s, rfl, q⟩
  | x :: l, acc, s, q => by
    obtain ⟨a, s', e, hl, q'⟩ := h x l acc s q
    obtain ⟨out, s2, e2, q2⟩ := lcL_ind P h l (acc ++ [a]) s' q'
    refine ⟨out, s2, ?_, q2⟩
    rw [lcL, e]
    simp only [Rs.bind_ok]
    rw [if_pos hl]
    exact e2
/-- what a way's making gives -/
def WyR (ns : List Int) (r : Rs R) : Prop := ∃ (w : Wy) (s' : Sto) (rest' : List Ob), r = .ok (.v w.av) s' ∧ w.ok ∧ Dr ns rest' s'
theorem szlt {n : Nat} (h : n < 4096) : n < sizeLine := Nat.lt_of_lt_of_le h (by decide)
/-- the pops -/
theorem trn_pops (d : Nat) {s : Sto} {left : List Int} (hl : left.length ≤ 3) (e2 e3 e4 e5 e6 e7 e9 e10 : Sl) (look : Sl) (hs : Dr ns (rest ++ [.ct (.lst (left.map .int))]) s) :
    ∃ (o : List Int) (s' : Sto) (rest' : List Ob), lcL (lcF (call Fu.tb (d + 1)) [.v (.loc 0), look, e2, e3, e4, e5, e6, e7, .v (.loc (rest.length + 1)), e9, e10, .no] (.nm 11) .none (.popL (.var 8) (.call .Ldrawn (.cons (.var 0) (.cons (.bi .len (.cons (.var 8) .nil)) .nil))))) [] ((rg left.length).map .int) s = .ok (o.map .int) s' ∧ o.length ≤ 3 ∧ Dr ns rest' s' := by
  obtain ⟨out, s', e, o, lf, h1, h2, h3, D⟩ := lcL_ind (f := lcF (call Fu.tb (d + 1)) [.v (.loc 0), look, e2, e3, e4, e5, e6, e7, .v (.loc (rest.length + 1)), e9, e10, .no] (.nm 11) .none (.popL (.var 8) (.call .Ldrawn (.cons (.var 0) (.cons (.bi .len (.cons (.var 8) .nil)) .nil))))) (fun l acc s => ∃ (o lf : List Int), acc = o.map .int ∧ l.length = lf.length ∧ o.length + lf.length ≤ 3 ∧ Dr ns (rest ++ [.ct (.lst (lf.map .int))]) s) (by
    rintro x l acc s ⟨o, lf, rfl, h2, h3, D⟩
    have hp : 0 < lf.length := by rw [List.length_cons] at h2; omega
    obtain ⟨i0, m0, v0, hi0, rfl⟩ := id D
    obtain ⟨x1, s1, d1, a1, b1, D1⟩ := Ldrawn_ d D (lf.length : Int) (by omega) (by omega)
    obtain ⟨i1, m1, v1, hi1, rfl⟩ := id D1
    have hx : x1.toNat < lf.length := by omega
    have o1 : ∀ (i m v : Int), (mkS ns i m v (rest ++ [.ct (.lst (lf.map .int))])).ob[rest.length + 1]? = some (.ct (.lst (lf.map .int))) := fun i m v => by
      simp [mkS]
    have hsq : seqIndex? x1 (lf.map AV.int).length = some x1.toNat := by
      unfold seqIndex?
      simp
      omega
    have hpop : popR (mkS ns i1 m1 v1 (rest ++ [.ct (.lst (lf.map .int))])) (.v (.loc (rest.length + 1))) (.v (.int x1)) = some (.int lf[x1.toNat], mkS ns i1 m1 v1 (rest ++ [.ct (.lst ((lf.eraseIdx x1.toNat).map .int))])) := by
      unfold popR
      have h0 : ¬ rest.length + 1 < (mkS ns i1 m1 v1 (rest ++ [.ct (.lst (lf.map .int))])).fl := by simp [mkS]
      have hb : (decide (-(2 ^ 63) ≤ x1) && decide (x1 < 2 ^ 63)) = true := by simp; omega
      simp only [h0, if_false, o1, hb, if_true, hsq, Option.bind_some]
      simp [hx, mkS]
      rw [List.eraseIdx_eq_take_drop_succ, List.eraseIdx_eq_take_drop_succ]
      simp
    refine ⟨.int lf[x1.toNat], _, ?_, by simp; exact szlt (by omega), o ++ [lf[x1.toNat]], lf.eraseIdx x1.toNat, by simp, ?_, ?_, i1, m1, v1, hi1, rfl⟩
    · have l1 : lstOf (mkS ns i0 m0 v0 (rest ++ [.ct (.lst (lf.map .int))])) (.v (.loc (rest.length + 1))) = some (lf.map .int) := lo_loc _ _ (o1 i0 m0 v0)
      have l2 : biR (mkS ns i0 m0 v0 (rest ++ [.ct (.lst (lf.map .int))])) .len [.v (.loc (rest.length + 1))] = some (.v (.int lf.length)) := by
        have := l_loc _ _ (o1 i0 m0 v0)
        simpa using this
      simp [lcF, l1, l2, d1, hpop]
    · rw [List.length_eraseIdx]; rw [List.length_cons] at h2; rw [if_pos hx]; omega
    · rw [List.length_append, List.length_eraseIdx, if_pos hx]; simp; omega) ((rg left.length).map .int) [] s ⟨[], left, rfl, by simp [rg_len], by simpa using hl, hs⟩
  subst h1
  exact ⟨o, s', _, e, by omega, D⟩
/-- the sides drawn anew where they are 1 -/
theorem over_draws (d : Nat) {s : Sto} {sd : List Int} (h1 : sd.length ≤ 3) (h2 : ∀ x ∈ sd, 0 ≤ x ∧ x ≤ 8) (look e2 e3 e4 e5 e6 e7 e8 : Sl) {most : Int} (hm : 0 < most ∧ most ≤ 8) (hs : Dr ns rest s) :
    ∃ (o : List Int) (s' : Sto), lcL (lcF (call Fu.tb (d + 1)) [.v (.loc 0), look, e2, e3, e4, e5, e6, e7, e8, .v (.int most), .no, .no] (.nm 11) .none (.sub (.lst (.cons (.var 11) (.cons (.bin .add (.cst (.int 1)) (.call .Ldrawn (.cons (.var 0) (.cons (.var 9) .nil)))) .nil))) (.op1 .intb (.cmp .eq (.var 11) (.cst (.int 1)))))) [] (sd.map .int) s = .ok (o.map .int) s' ∧ o.length ≤ 3 ∧ (∀ x ∈ o, 0 ≤ x ∧ x ≤ 8) ∧ Dr ns rest s' := by
  obtain ⟨out, s', e, o, t, q1, q2, q3, q4, q5, D⟩ := lcL_ind (f := lcF (call Fu.tb (d + 1)) [.v (.loc 0), look, e2, e3, e4, e5, e6, e7, e8, .v (.int most), .no, .no] (.nm 11) .none (.sub (.lst (.cons (.var 11) (.cons (.bin .add (.cst (.int 1)) (.call .Ldrawn (.cons (.var 0) (.cons (.var 9) .nil)))) .nil))) (.op1 .intb (.cmp .eq (.var 11) (.cst (.int 1)))))) (fun l acc s => ∃ (o t : List Int), acc = o.map .int ∧ l = t.map .int ∧ o.length + t.length ≤ 3 ∧ (∀ x ∈ o, 0 ≤ x ∧ x ≤ 8) ∧ (∀ x ∈ t, 0 ≤ x ∧ x ≤ 8) ∧ Dr ns rest s) (by
    rintro x l acc s ⟨o, t, rfl, q2, q3, q4, q5, D⟩
    cases t with
    | nil => cases q2
    | cons y t =>
      cases q2
      obtain ⟨x1, s1, d1, a1, b1, D1⟩ := Ldrawn_ d D most hm.1 (by omega)
      have hy := q5 y (List.mem_cons_self ..)
      rw [List.length_cons] at q3
      by_cases c : y = 1
      · refine ⟨.int (1 + x1), s1, ?_, by simp; exact szlt (by omega), o ++ [1 + x1], t, by simp, rfl, by simp; omega, ?_, fun x hx => q5 x (List.mem_cons_of_mem _ hx), D1⟩
        · simp [lcF, d1, c]
        · intro z hz
          rcases List.mem_append.mp hz with hz | hz
          · exact q4 z hz
          · simp at hz; omega
      · refine ⟨.int y, s1, ?_, by simp; exact szlt (by omega), o ++ [y], t, by simp, rfl, by simp; omega, ?_, fun x hx => q5 x (List.mem_cons_of_mem _ hx), D1⟩
        · simp [lcF, d1, c]
        · intro z hz
          rcases List.mem_append.mp hz with hz | hz
          · exact q4 z hz
          · simp at hz; omega) (sd.map .int) [] s ⟨[], sd, rfl, rfl, by simpa using h1, by simp, h2, hs⟩
  subst q1
  exact ⟨o, s', e, by omega, q4, D⟩
theorem wgo {C : Cf Fu} {env env' : EV.Env} {s s' : Sto} {st : S Fu} {ss : Ss Fu} (h : ex C env st s = .ok (.nx, env') s') (k : WyR ns (fin (exs C env' ss s'))) : WyR ns (fin (exs C env (.cons st ss) s)) := by
  rw [xs_cons, h]
  exact k
theorem Lway_ (d : Nat) {s : Sto} (hs : Dr ns rest s) {st : Int} {sd sp : List Int} (h1 : sd.length ≤ 3) (h2 : ∀ x ∈ sd, 0 ≤ x ∧ x ≤ 8) : WyR ns (call Fu.tb (d + 3) .Lway [.loc 0, lk st sd sp] s) := by
  rw [call_eq rfl rfl]
  obtain ⟨x3, s1, d1, a1, b1, D1⟩ := Ldrawn_ (d + 1) hs 9 (by decide) (by decide)
  -- the side
  have hside : ∃ (k y : Int) (s2 : Sto), (sd = [] ∧ k = 0 ∧ y = 0 ∧ s2 = s1 ∨ sd ≠ [] ∧ call Fu.tb (d + 2) .Ldrawn [.loc 0, .int sd.length] s1 = .ok (.v (.int k)) s2 ∧ L2.atI (sd.map AV.int) k = some (.int y)) ∧ 0 ≤ k ∧ k ≤ 3 ∧ 0 ≤ y ∧ y ≤ 8 ∧ Dr ns rest s2 := by
    by_cases c : sd = []
    · exact ⟨0, 0, s1, .inl ⟨c, rfl, rfl, rfl⟩, by omega, by omega, by omega, by omega, D1⟩
    · have hp : 0 < sd.length := List.length_pos_iff.mpr c
      obtain ⟨k, s2, d2, a2, b2, D2⟩ := Ldrawn_ (d + 1) D1 (sd.length : Int) (by omega) (by omega)
      obtain ⟨y, hy, e⟩ := at_ints sd k a2 b2
      have := h2 y hy
      exact ⟨k, y, s2, .inr ⟨c, d2, e⟩, by omega, by omega, by omega, by omega, D2⟩
  obtain ⟨k, y, s2, hk, k0, k1, y0, y1, D2⟩ := hside
  have hq : eqR s1 (.v (tI sd)) (.v (.tup [])) = some (decide (sd = [])) := q_tI s1 sd []
  have hq2 : eqR s2 (.v (tI sd)) (.v (.tup [])) = some (decide (sd = [])) := q_tI s2 sd []
  unfold Fu.bLway
  refine wgo (env' := [.v (.loc 0), .v (lk st sd sp), .v (tI sd), .no, .no, .no, .no, .no, .no, .no, .no, .no]) (s' := s) (by simp [lk, List.replicate]) ?_
  refine wgo (env' := [.v (.loc 0), .v (lk st sd sp), .v (tI sd), .v (.int x3), .no, .no, .no, .no, .no, .no, .no, .no]) (s' := s1) (by simp [d1]) ?_
  refine wgo (env' := [.v (.loc 0), .v (lk st sd sp), .v (tI sd), .v (.int x3), .v (.int k), .no, .no, .no, .no, .no, .no, .no]) (s' := s2) (by
    rcases hk with ⟨c, rfl, rfl, rfl⟩ | ⟨c, d2, e⟩
    · subst c; simp [hq]
    · simp only [tI] at hq d2 ⊢
      simp [hq, c, d2]) ?_
  refine wgo (env' := [.v (.loc 0), .v (lk st sd sp), .v (tI sd), .v (.int x3), .v (.int k), .v (.int y), .no, .no, .no, .no, .no, .no]) (s' := s2) (by
    rcases hk with ⟨c, rfl, rfl, rfl⟩ | ⟨c, d2, e⟩
    · subst c; simp [hq]
    · simp only [tI] at hq2 ⊢
      simp [hq2, c, e]) ?_
  have hr := rng_rg (a := (sd.length : Int)) (by omega) (by omega)
  by_cases c3 : x3 < 3
  · obtain ⟨z1, t1, g1, u1, v1, D3⟩ := Ldrawn_ (d + 1) D2 8 (by decide) (by decide)
    obtain ⟨z2, t2, g2, u2, v2, D4⟩ := Ldrawn_ (d + 1) D3 8 (by decide) (by decide)
    obtain ⟨z3, t3, g3, u3, v3, D5⟩ := Ldrawn_ (d + 1) D4 7 (by decide) (by decide)
    obtain ⟨r, hr1, e3⟩ := at_ints [1, 1, -1, 2, -2, 1 + z1, -1 - z2] z3 u3 (by simp; omega)
    simp only [List.map_cons, List.map_nil] at e3
    obtain ⟨z4, t4, g4, u4, v4, D6⟩ := Ldrawn_ (d + 1) D5 (y + 2) (by omega) (by omega)
    obtain ⟨z5, t5, g5, u5, v5, D7⟩ := Ldrawn_ (d + 1) D6 (y + 2) (by omega) (by omega)
    obtain ⟨z6, t6, g6, u6, v6, D8⟩ := Ldrawn_ (d + 1) D7 2 (by decide) (by decide)
    have hr2 : -8 ≤ r ∧ r ≤ 8 := by simp at hr1; omega
    by_cases c6 : z6 = 0
    · subst c6
      by_cases c7 : r < 0
      · refine ⟨.cut k (y - 1) (-1) r, t6, rest, ?_, ⟨by omega, by omega, by omega, by omega, by omega, by omega, by omega, by omega⟩, D8⟩
        simp [c3, g1, g2, g3, g4, g5, g6, e3, c7, Wy.av]
      · refine ⟨.cut k 0 y r, t6, rest, ?_, ⟨by omega, by omega, by omega, by omega, by omega, by omega, by omega, by omega⟩, D8⟩
        simp [c3, g1, g2, g3, g4, g5, g6, e3, c7, Wy.av]
    · have c6 : z6 = 1 := by omega
      subst c6
      refine ⟨.cut k (z4 - 1) (z5 - 1) r, t6, rest, ?_, ⟨by omega, by omega, by omega, by omega, by omega, by omega, by omega, by omega⟩, D8⟩
      simp [c3, g1, g2, g3, g4, g5, g6, e3, Wy.av]
  · by_cases c4 : x3 = 3
    · subst c4
      obtain ⟨z1, t1, g1, u1, v1, D3⟩ := Ldrawn_ (d + 1) D2 (y + 1) (by omega) (by omega)
      refine ⟨.pick k z1, t1, rest, ?_, ⟨by omega, by omega, by omega, by omega⟩, D3⟩
      simp [g1, Wy.av]
    · by_cases c5 : x3 < 6
      · obtain ⟨i0, m0, v0, hi0, rfl⟩ := id D2
        have hz : (rg (sd.length : Int)).length ≤ sizeLine := szle (by rw [rg_len]; omega)
        have hrl : (rg (sd.length : Int)).length = sd.length := by rw [rg_len]; omega
        obtain ⟨o, s', rest', e, q1, D⟩ := trn_pops (d + 1) (left := rg sd.length) (rest := rest) (ns := ns) (s := mkS ns i0 m0 v0 (rest ++ [.ct (.lst ((rg sd.length).map .int))])) (by omega) (.v (tI sd)) (.v (.int x3)) (.v (.int k)) (.v (.int y)) .no .no .no .no (.v (lk st sd sp)) ⟨i0, m0, v0, hi0, rfl⟩
        refine ⟨.trn o, s', rest', ?_, by show o.length ≤ 1000; omega, D⟩
        rw [hrl] at e
        simp only [tI, lk, mkS, List.length_append, List.length_singleton] at e hr ⊢
        simp [c3, c4, c5, Wy.av, hr, hz, e, biR, tI]
      · by_cases c6 : x3 < 8
        · obtain ⟨z1, t1, g1, u1, v1, D3⟩ := Ldrawn_ (d + 1) D2 3 (by decide) (by decide)
          obtain ⟨most, hm1, e3⟩ := at_ints [4, 4, 8] z1 u1 (by simp; omega)
          simp only [List.map_cons, List.map_nil] at e3
          have hm : 0 < most ∧ most ≤ 8 := by simp at hm1; omega
          obtain ⟨o, t2, e4, q1, q2, D4⟩ := over_draws (d + 1) h1 h2 (.v (lk st sd sp)) (.v (tI sd)) (.v (.int x3)) (.v (.int k)) (.v (.int y)) .no .no .no hm D3
          obtain ⟨z3, t3, g3, u3, v3, D5⟩ := Ldrawn_ (d + 1) D4 most hm.1 (by omega)
          obtain ⟨z4, t4, g4, u4, v4, D6⟩ := Ldrawn_ (d + 1) D5 2 (by decide) (by decide)
          have hb : binR t4 .mul (.v (.tup [.int (1 + z3)])) (.v (.int z4)) = some (.v (tI (List.replicate z4.toNat (1 + z3)))) := by
            rw [b_tmul _ _ (by omega) (by omega) (szle (by simp; omega))]
            simp [tI]
          have hz : z4.toNat + o.length ≤ sizeLine := szle (by omega)
          have hcm := cutA_map AV.int (List.replicate z4.toNat (1 + z3) ++ o) (some (-3)) none
          have hcl := cutA_len (List.replicate z4.toNat (1 + z3) ++ o) (some (-3)) none
          refine ⟨.ovr (cutA (List.replicate z4.toNat (1 + z3) ++ o) (some (-3)) none), t4, rest, ?_, ⟨by simp at hcl; omega, fun x hx => ?_⟩, D6⟩
          · simp only [tI, lk] at e4 hb ⊢
            simp only [List.map_append, List.map_replicate] at hcm
            simp only [List.map_replicate] at hb
            simp [c3, c4, c5, c6, g1, e3, e4, g3, g4, hb, hz, hcm, biR, Wy.av, tI]
          · rcases List.mem_append.mp (cutA_mem hx) with hx | hx
            · have := (List.mem_replicate.mp hx).2; omega
            · have := q2 x hx; omega
        · obtain ⟨w, t1, g1, q1, D3⟩ := Lother_sides_ d D2 h1 h2
          refine ⟨.shp w, t1, rest, ?_, ⟨by have := q1.1; omega, fun x hx => by have := q1.2 x hx; omega⟩, D3⟩
          simp only [tI, lk] at g1 ⊢
          simp [c3, c4, c5, c6, g1, Wy.av, tI]
end LW

set_option maxRecDepth 100000
set_option maxHeartbeats 2000000
namespace LW
open EV PySem PySem.Spec
variable {ns : List Int} {rest : List Ob}
theorem look_none {A : Type} [DecidableEq A] {q : A} : ∀ {ks : List A} {vs : List AV}, ks.length = vs.length → look ks vs q = none → (ks.any fun k => decide (k = q)) = false
  | [], _, _, _ => rfl
  | k :: ks, [], h, _ => by simp at h
  | k :: ks, v :: vs, h, e => by
    unfold look at e
    split at e
    · cases e
    · rename_i c
      have := look_none (by simpa using h) e
      simp only [List.any_cons, c, decide_false, Bool.false_or]
      exact this
theorem look_app {A : Type} [DecidableEq A] {q k' : A} {v' : AV} : ∀ {ks : List A} {vs : List AV}, ks.length = vs.length → look (ks ++ [k']) (vs ++ [v']) q = (look ks vs q).or (if k' = q then some v' else none)
  | [], [], _ => by simp [look]
  | [], _ :: _, h => by simp at h
  | _ :: _, [], h => by simp at h
  | k :: ks, v :: vs, h => by
    have := look_app (q := q) (k' := k') (v' := v') (ks := ks) (vs := vs) (by simpa using h)
    simp only [List.cons_append, look, this]
    split <;> simp
/-- a dict of the first places -/
structure FD (f : List Int → Int) (ks : List L2.Key) (vs : List AV) (l : List (List Int)) : Prop where
  h1 : ks.length = vs.length
  h2 : vs.length ≤ l.length
  h3 : ∀ c : Int, look ks vs (.inl c) = (l.find? fun p => decide (f p = c)).map tI
theorem fd_nil (f : List Int → Int) : FD f [] [] [] := ⟨rfl, by simp, fun c => by simp [look]⟩
theorem fd_old {f : List Int → Int} {ks : List L2.Key} {vs : List AV} {l : List (List Int)} (h : FD f ks vs l) {p : List Int} {a : AV} (e : look ks vs (.inl (f p)) = some a) : FD f ks vs (l ++ [p]) := by
  refine ⟨h.h1, by have := h.h2; simp; omega, fun c => ?_⟩
  rw [h.h3, List.find?_append]
  by_cases hc : f p = c
  · subst hc
    rw [h.h3] at e
    obtain ⟨x, hx, _⟩ := Option.map_eq_some_iff.mp e
    rw [hx]; rfl
  · simp [hc]
theorem fd_new {f : List Int → Int} {ks : List L2.Key} {vs : List AV} {l : List (List Int)} (h : FD f ks vs l) {p : List Int} (e : look ks vs (.inl (f p)) = none) : FD f (store ks vs (.inl (f p)) (tI p)).1 (store ks vs (.inl (f p)) (tI p)).2 (l ++ [p]) := by
  have e1 := look_none h.h1 e
  have e2 : store ks vs (.inl (f p)) (tI p) = (ks ++ [.inl (f p)], vs ++ [tI p]) := by
    unfold store
    rw [e1]
    rfl
  rw [e2]
  refine ⟨by simp [h.h1], by have := h.h2; simp; omega, fun c => ?_⟩
  rw [look_app h.h1, h.h3, List.find?_append]
  by_cases hc : f p = c
  · subst hc
    rw [h.h3] at e
    rw [Option.map_eq_none_iff] at e
    simp [e]
  · have hc' : ¬ ((Sum.inl (f p) : L2.Key) = .inl c) := fun z => hc (Sum.inl.inj z)
    simp [hc, hc']
theorem first_places_ (d : Nat) {st : Int} {sd sp : List Int} (h : Lk st sd sp) (s : Sto) : ∃ ks vs, call Fu.tb (d + 2) .first_places [lk st sd sp] s = .ok (.tl (.dic ks vs)) s ∧ FD (fun p => st + zs (· * ·) p sp) ks vs (pl sd) := by
  rw [call_eq rfl rfl]
  have e1 := places_of_ d sd s h.h1 h.h2
  have b1 := pl_512 h.h1 h.h2
  obtain ⟨env', s', e, rfl, dn, t, ks, vs, e2, q1, q2, q3, rfl⟩ := forL_ind (f := loopF (call Fu.tb (d + 1)) (.nm 2) Fu.bfirst_places_1) (fun l env u => u = s ∧ ∃ (dn t : List (List Int)) (ks : List L2.Key) (vs : List AV) (e2 : Sl), l = t.map tI ∧ dn ++ t = pl sd ∧ FD (fun p => st + zs (· * ·) p sp) ks vs dn ∧ env = [.v (lk st sd sp), .own (.dic ks vs), e2]) (by
    rintro x l env s ⟨rfl, dn, t, ks, vs, e2, q1, q2, q3, rfl⟩
    cases t with
    | nil => cases q1
    | cons p t =>
      cases q1
      obtain ⟨p1, p2⟩ := pl_mem sd h.h2 p (by rw [← q2]; simp)
      have ec := cell_of_ d st sd sp p s (by rw [p1]; exact h.h1) p2
      have hl : vs.length < sizeLine := szlt (by
        have := q3.h2
        have := congrArg List.length q2
        simp at this
        omega)
      cases hk : look ks vs (.inl (st + zs (· * ·) p sp)) with
      | some a =>
        refine ⟨[.v (lk st sd sp), .own (.dic ks vs), .v (tI p)], s, ?_, rfl, dn ++ [p], t, ks, vs, _, rfl, by simpa using q2, fd_old q3 hk, rfl⟩
        simp [loopF, Fu.bfirst_places_1, ec, hl, hk]
      | none =>
        refine ⟨_, s, ?_, rfl, dn ++ [p], t, _, _, .v (tI p), rfl, by simpa using q2, fd_new q3 hk, rfl⟩
        simp [loopF, Fu.bfirst_places_1, ec, hl, hk]) ((pl sd).map tI) [.v (lk st sd sp), .own (.dic [] []), .no] s ⟨rfl, [], pl sd, [], [], .no, rfl, rfl, fd_nil _, rfl⟩
  have ht : t = [] := by cases t with | nil => rfl | cons _ _ => cases q1
  subst ht
  rw [List.append_nil] at q2
  subst q2
  refine ⟨ks, vs, ?_, q3⟩
  have e3 : subR s' (.v (lk st sd sp)) (.v (.int 1)) = some (.v (tI sd)) := by simp [lk]
  simp [Fu.bfirst_places, List.replicate, e3, e1, e]
/-- what meets answers -/
def mA : Option (List Int × List Int) → AV
  | none => .non
  | some (p, q) => .tup [tI p, tI q]
def mtF (f g : List Int → Int) (m : List (List Int)) (l : List (List Int)) : Option (List Int × List Int) := l.findSome? fun p => (m.find? fun q => decide (g q = f p)).map fun q => (p, q)
theorem meets_ (d : Nat) {st st' : Int} {sd sp sd' sp' : List Int} (h : Lk st sd sp) (h' : Lk st' sd' sp') (s : Sto) : call Fu.tb (d + 5) .meets [lk st sd sp, lk st' sd' sp'] s = .ok (.v (mA (mtF (fun p => st + zs (· * ·) p sp) (fun p => st' + zs (· * ·) p sp') (pl sd') (pl sd)))) s := by
  rw [call_eq rfl rfl]
  have n1 := need_look_ d h s
  have n2 := need_look_ d h' s
  obtain ⟨ks, vs, e1, fd⟩ := first_places_ (d + 2) h' s
  have e2 := places_of_ (d + 3) sd s h.h1 h.h2
  have e3 : subR s (.v (lk st sd sp)) (.v (.int 1)) = some (.v (tI sd)) := by simp [lk]
  have l := forL_or (F := Fu) (f := loopF (call Fu.tb (d + 4)) (.nm 3) Fu.bmeets_1) (fun l env u => u = s ∧ ∃ (t : List (List Int)) (e3 : Sl), l = t.map tI ∧ (∀ p ∈ t, p ∈ pl sd) ∧ mtF (fun p => st + zs (· * ·) p sp) (fun p => st' + zs (· * ·) p sp') (pl sd') t = mtF (fun p => st + zs (· * ·) p sp) (fun p => st' + zs (· * ·) p sp') (pl sd') (pl sd) ∧ env = [.v (lk st sd sp), .v (lk st' sd' sp'), .v (.dic ks vs), e3]) (fun r u => u = s ∧ r = .v (mA (mtF (fun p => st + zs (· * ·) p sp) (fun p => st' + zs (· * ·) p sp') (pl sd') (pl sd)))) (by
    rintro x l env s ⟨rfl, t, e3, q1, q2, q3, rfl⟩
    cases t with
    | nil => cases q1
    | cons p t =>
      cases q1
      obtain ⟨p1, p2⟩ := pl_mem sd h.h2 p (q2 p (List.mem_cons_self ..))
      have ec := cell_of_ (d + 3) st sd sp p s (by rw [p1]; exact h.h1) p2
      have hk := fd.h3 (st + zs (· * ·) p sp)
      rw [mtF, List.findSome?_cons] at q3
      cases hf : (pl sd').find? fun q => decide (st' + zs (· * ·) q sp' = st + zs (· * ·) p sp) with
      | none =>
        rw [hf] at hk q3
        refine .inl ⟨_, s, ?_, rfl, t, .v (tI p), rfl, fun z hz => q2 z (List.mem_cons_of_mem _ hz), q3, rfl⟩
        simp at hk
        simp [loopF, Fu.bmeets_1, ec, hk]
      | some q =>
        rw [hf] at hk q3
        refine .inr ⟨_, [.v (lk st sd sp), .v (lk st' sd' sp'), .v (.dic ks vs), .v (tI p)], s, ?_, rfl, rfl⟩
        simp at hk q3
        rw [← q3]
        simp [loopF, Fu.bmeets_1, ec, hk, mA]) ((pl sd).map tI) [.v (lk st sd sp), .v (lk st' sd' sp'), .v (.dic ks vs), .no] s ⟨rfl, pl sd, .no, rfl, fun p hp => hp, rfl, rfl⟩
  rcases l with ⟨env', s', e, rfl, t, e4, q1, q2, q3, rfl⟩ | ⟨r, env', s', e, rfl, rfl⟩
  · have ht : t = [] := by cases t with | nil => rfl | cons _ _ => cases q1
    subst ht
    rw [← q3]
    simp [Fu.bmeets, List.replicate, n1, n2, e1, e2, e3, e, mtF, mA]
  · simp [Fu.bmeets, List.replicate, n1, n2, e1, e2, e3, e]
theorem ix_find (f : List Int → Int) (c : Int) : ∀ l : List (List Int), (ix c (l.map f)).bind (fun j => l[j]?) = l.find? fun q => decide (f q = c)
  | [] => rfl
  | p :: l => by
    have ih := ix_find f c l
    by_cases hc : f p = c
    · simp [ix, hc]
    · simp only [List.map_cons, ix, hc, if_false, List.find?_cons, decide_false]
      rw [← ih]
      cases ix c (l.map f) <;> simp
theorem Lmeets_ (d : Nat) {st st' : Int} {sd sp sd' sp' : List Int} (h : Lk st sd sp) (h' : Lk st' sd' sp') (s : Sto) : call Fu.tb (d + 6) .Lmeets [lk st sd sp, lk st' sd' sp'] s = .ok (.v (mA (mtF (fun p => st + zs (· * ·) p sp) (fun p => st' + zs (· * ·) p sp') (pl sd') (pl sd)))) s := by
  rw [call_eq rfl rfl]
  have e1 := Lcellsb_ d h'.lb (st := st') s
  have e2 := Lplaces' (d + 1) h'.h1 h'.h2 s
  have e2' := Lplaces' (d + 1) h.h1 h.h2 s
  have b1 := pl_512 h'.h1 h'.h2
  have hcl := cs_len st' sd' sp'
  have e3 : subR s (.v (lk st sd sp)) (.v (.int 1)) = some (.v (tI sd)) := by simp [lk]
  have e3' : subR s (.v (lk st' sd' sp')) (.v (.int 1)) = some (.v (tI sd')) := by simp [lk]
  have l := forL_or (F := Fu) (f := loopF (call Fu.tb (d + 5)) (.nm 4) Fu.bLmeets_1) (fun l env u => u = s ∧ ∃ (t : List (List Int)) (e4 e5 : Sl), l = t.map tI ∧ (∀ p ∈ t, p ∈ pl sd) ∧ mtF (fun p => st + zs (· * ·) p sp) (fun p => st' + zs (· * ·) p sp') (pl sd') t = mtF (fun p => st + zs (· * ·) p sp) (fun p => st' + zs (· * ·) p sp') (pl sd') (pl sd) ∧ env = [.v (lk st sd sp), .v (lk st' sd' sp'), .v (.lst ((cs st' sd' sp').map .int)), .v (.lst ((pl sd').map tI)), e4, e5]) (fun r u => u = s ∧ r = .v (mA (mtF (fun p => st + zs (· * ·) p sp) (fun p => st' + zs (· * ·) p sp') (pl sd') (pl sd)))) (by
    rintro x l env s ⟨rfl, t, e4, e5, q1, q2, q3, rfl⟩
    cases t with
    | nil => cases q1
    | cons p t =>
      cases q1
      obtain ⟨p1, p2⟩ := pl_mem sd h.h2 p (q2 p (List.mem_cons_self ..))
      have ec := Lcell_ (d + 4) (st := st) (sd := sd) (sp := sp) s (by rw [p1]; exact h.h1) p2 (by rw [p1, h.h3])
      have hi := in_int s (cs st' sd' sp') (by omega) (st + zs (· * ·) p sp)
      have hx := idx_int s (cs st' sd' sp') (by omega) (st + zs (· * ·) p sp)
      have hf' := ix_find (fun p => st' + zs (· * ·) p sp') (st + zs (· * ·) p sp) (pl sd')
      rw [mtF, List.findSome?_cons] at q3
      cases hf : (pl sd').find? fun q => decide (st' + zs (· * ·) q sp' = st + zs (· * ·) p sp) with
      | none =>
        rw [hf] at q3
        have hn : st + zs (· * ·) p sp ∉ cs st' sd' sp' := by
          intro hm
          obtain ⟨q, hq, e⟩ := List.mem_map.mp hm
          have := List.find?_eq_none.mp hf q hq
          simp [e] at this
        refine .inl ⟨_, s, ?_, rfl, t, .v (tI p), .v (.int (st + zs (· * ·) p sp)), rfl, fun z hz => q2 z (List.mem_cons_of_mem _ hz), q3, rfl⟩
        simp [loopF, Fu.bLmeets_1, ec, hi, hn]
      | some q =>
        rw [hf] at hf' q3
        have hm : st + zs (· * ·) p sp ∈ cs st' sd' sp' := by
          have h1 := List.find?_some hf
          exact List.mem_map.mpr ⟨q, List.mem_of_find?_eq_some hf, by simpa using h1⟩
        obtain ⟨j, j1, j2, j3⟩ := ix_mem hm
        have j1' : ix (st + zs (· * ·) p sp) ((pl sd').map fun p => st' + zs (· * ·) p sp') = some j := j1
        rw [j1'] at hf'
        rw [j1] at hx
        have ea : L2.atI ((pl sd').map tI) (j : Int) = some (tI q) := at_nat rfl (by
          have : (pl sd')[j]? = some q := by simpa using hf'
          rw [List.getElem?_map, this]; rfl)
        refine .inr ⟨_, [.v (lk st sd sp), .v (lk st' sd' sp'), .v (.lst ((cs st' sd' sp').map .int)), .v (.lst ((pl sd').map tI)), .v (tI p), .v (.int (st + zs (· * ·) p sp))], s, ?_, rfl, rfl⟩
        simp at q3
        rw [← q3]
        simp [loopF, Fu.bLmeets_1, ec, hi, hm, hx, ea, mA]) ((pl sd).map tI) [.v (lk st sd sp), .v (lk st' sd' sp'), .v (.lst ((cs st' sd' sp').map .int)), .v (.lst ((pl sd').map tI)), .no, .no] s ⟨rfl, pl sd, .no, .no, rfl, fun p hp => hp, rfl, rfl⟩
  rcases l with ⟨env', s', e, rfl, t, e4, e5, q1, q2, q3, rfl⟩ | ⟨r, env', s', e, rfl, rfl⟩
  · have ht : t = [] := by cases t with | nil => rfl | cons _ _ => cases q1
    subst ht
    rw [← q3]
    simp [Fu.bLmeets, List.replicate, e1, e2, e2', e3, e3', e, mtF, mA]
  · simp [Fu.bLmeets, List.replicate, e1, e2, e2', e3, e3', e]
end LW

set_option maxRecDepth 100000
set_option maxHeartbeats 2000000
namespace LW
open EV PySem PySem.Spec
variable {ns : List Int} {rest : List Ob}
abbrev lt (a b : List Int) : Bool := HT.lexLt a b
theorem lt_irr : ∀ a : List Int, lt a a = false
  | [] => rfl
  | x :: a => by
    have := lt_irr a
    unfold lt at this ⊢
    simp [HT.lexLt, this]
theorem lt_asym : ∀ {a b : List Int}, lt a b = true → lt b a = false
  | [], [], h => by simp [lt, HT.lexLt] at h
  | [], _ :: _, _ => rfl
  | _ :: _, [], h => by simp [lt, HT.lexLt] at h
  | x :: a, y :: b, h => by
    have := @lt_asym a b
    unfold lt at this h ⊢
    by_cases c : x = y
    · simp [HT.lexLt, c] at h ⊢; exact this h
    · simp [HT.lexLt, c, Ne.symm c] at h ⊢; omega
theorem pl_sorted : ∀ sd : List Int, (pl sd).Pairwise fun a b => lt a b = true
  | [] => by simp [pl]
  | a :: r => by
    have ih := pl_sorted r
    have hrg : (rg a).Pairwise (· < ·) := by
      unfold rg
      rw [List.pairwise_map]
      exact List.Pairwise.imp (fun {a b} h => by omega) List.pairwise_lt_range
    unfold pl
    generalize rg a = ks at hrg
    induction ks with
    | nil => simp
    | cons k ks ihk =>
      rw [List.pairwise_cons] at hrg
      rw [List.flatMap_cons, List.pairwise_append]
      refine ⟨?_, ihk hrg.2, ?_⟩
      · rw [List.pairwise_map]
        exact ih.imp fun {p q} h => by
          unfold lt at h ⊢
          simp [HT.lexLt, h]
      · intro p hp q hq
        obtain ⟨p', _, rfl⟩ := List.mem_map.mp hp
        obtain ⟨k', hk', hq⟩ := List.mem_flatMap.mp hq
        obtain ⟨q', _, rfl⟩ := List.mem_map.mp hq
        have := hrg.1 k' hk'
        have h2 : k ≠ k' := by omega
        unfold lt
        simp [HT.lexLt, this, h2]
/-- the first place whose cell comes again -/
def tw (f : List Int → Int) : List (List Int) → Option (List Int × List Int)
  | [] => none
  | p :: l => match l.find? fun q => decide (f q = f p) with
    | some q => some (p, q)
    | none => tw f l
theorem tw_mem {f : List Int → Int} : ∀ {l : List (List Int)} {a b : List Int}, tw f l = some (a, b) → a ∈ l
  | [], a, b, h => by cases h
  | p :: l, a, b, h => by
    unfold tw at h
    split at h
    · cases h; exact List.mem_cons_self ..
    · exact List.mem_cons_of_mem _ (tw_mem h)
def twS (f : List Int → Int) (o : Option (List Int × List Int)) (x : List Int) : Option (List Int) → Option (List Int × List Int)
  | none => o
  | some g => match o with
    | none => some (g, x)
    | some (a, b) => if lt g a = true then some (g, x) else some (a, b)
theorem tw_step (f : List Int → Int) (x : List Int) : ∀ l : List (List Int), (l.Pairwise fun a b => lt a b = true) → tw f (l ++ [x]) = twS f (tw f l) x (l.find? fun q => decide (f q = f x))
  | [], _ => by simp [tw, twS]
  | p :: l, h => by
    rw [List.pairwise_cons] at h
    have ih := tw_step f x l h.2
    rw [List.cons_append]
    unfold tw
    rw [List.find?_append]
    cases hl : l.find? fun q => decide (f q = f p) with
    | some q =>
      simp only [Option.some_or]
      rw [List.find?_cons]
      by_cases hc : f p = f x
      · simp [hc, twS, lt_irr]
      · simp only [hc, decide_false]
        cases hg : l.find? fun q => decide (f q = f x) with
        | none => simp [twS]
        | some g =>
          have := lt_asym (h.1 g (List.mem_of_find?_eq_some hg))
          simp [twS, this]
    | none =>
      simp only [Option.none_or]
      rw [List.find?_cons]
      by_cases hc : f p = f x
      · have hc' : decide (f x = f p) = true := by simp [hc]
        simp only [List.find?_cons, hc', hc, decide_true]
        cases ht : tw f l with
        | none => simp [twS]
        | some ab =>
          have := h.1 ab.1 (tw_mem (b := ab.2) ht)
          simp [twS, this]
      · have hc' : decide (f x = f p) = false := by simp [Ne.symm hc]
        simp only [List.find?_cons, hc', hc, decide_false, List.find?_nil]
        exact ih
theorem twice_ (d : Nat) {st : Int} {sd sp : List Int} (h : Lk st sd sp) (s : Sto) : call Fu.tb (d + 5) .twice [lk st sd sp] s = .ok (.v (mA (tw (fun p => st + zs (· * ·) p sp) (pl sd)))) s := by
  rw [call_eq rfl rfl]
  have n1 := need_look_ d h s
  have e1 := places_of_ (d + 3) sd s h.h1 h.h2
  have b1 := pl_512 h.h1 h.h2
  have hso := pl_sorted sd
  obtain ⟨env', s', e, rfl, dn, t, ks, vs, e3, e4, q1, q2, q3, rfl⟩ := forL_ind (f := loopF (call Fu.tb (d + 4)) (.nm 3) Fu.btwice_1) (fun l env u => u = s ∧ ∃ (dn t : List (List Int)) (ks : List L2.Key) (vs : List AV) (e3 e4 : Sl), l = t.map tI ∧ dn ++ t = pl sd ∧ FD (fun p => st + zs (· * ·) p sp) ks vs dn ∧ env = [.v (lk st sd sp), .own (.dic ks vs), .v (mA (tw (fun p => st + zs (· * ·) p sp) dn)), e3, e4]) (by
    rintro x l env s ⟨rfl, dn, t, ks, vs, e3, e4, q1, q2, q3, rfl⟩
    cases t with
    | nil => cases q1
    | cons p t =>
      cases q1
      obtain ⟨p1, p2⟩ := pl_mem sd h.h2 p (by rw [← q2]; simp)
      have ec := cell_of_ (d + 3) st sd sp p s (by rw [p1]; exact h.h1) p2
      have hl : vs.length < sizeLine := szlt (by
        have := q3.h2
        have := congrArg List.length q2
        simp at this
        omega)
      have hdn : dn.Pairwise fun a b => lt a b = true := by
        rw [← q2, List.pairwise_append] at hso
        exact hso.1
      have hs := tw_step (fun p => st + zs (· * ·) p sp) p dn hdn
      have hk := q3.h3 (st + zs (· * ·) p sp)
      cases hf : dn.find? fun q => decide (st + zs (· * ·) q sp = st + zs (· * ·) p sp) with
      | none =>
        rw [hf] at hk hs
        refine ⟨[.v (lk st sd sp), .own (.dic (store ks vs (.inl (st + zs (· * ·) p sp)) (tI p)).1 (store ks vs (.inl (st + zs (· * ·) p sp)) (tI p)).2), .v (mA (tw (fun p => st + zs (· * ·) p sp) (dn ++ [p]))), .v (tI p), .v (.int (st + zs (· * ·) p sp))], s, ?_, rfl, dn ++ [p], t, _, _, _, _, rfl, by simpa using q2, fd_new q3 (by simpa using hk), rfl⟩
        rw [hs]
        simp at hk
        simp [loopF, Fu.btwice_1, ec, hl, hk, twS, rd]
      | some g =>
        rw [hf] at hk hs
        refine ⟨[.v (lk st sd sp), .own (.dic ks vs), .v (mA (tw (fun p => st + zs (· * ·) p sp) (dn ++ [p]))), .v (tI p), .v (.int (st + zs (· * ·) p sp))], s, ?_, rfl, dn ++ [p], t, _, _, _, _, rfl, by simpa using q2, fd_old q3 (by simpa using hk), rfl⟩
        rw [hs]
        simp at hk
        cases ht : tw (fun p => st + zs (· * ·) p sp) dn with
        | none => simp [loopF, Fu.btwice_1, ec, hl, hk, twS, mA, rd]
        | some ab =>
          obtain ⟨a, b⟩ := ab
          have ha : a ∈ dn := tw_mem ht
          have hcmp : cmpR s .lt (.v (tI g)) (.v (tI a)) = some (lt g a) := by simp [tI, lt]
          by_cases hc : lt g a = true
          · rw [hc] at hcmp
            simp [loopF, Fu.btwice_1, ec, hl, hk, twS, mA, isNon, rd, hcmp, hc]
          · simp only [Bool.not_eq_true] at hc
            rw [hc] at hcmp
            simp [loopF, Fu.btwice_1, ec, hl, hk, twS, mA, isNon, rd, hcmp, hc]) ((pl sd).map tI) [.v (lk st sd sp), .own (.dic [] []), .v .non, .no, .no] s ⟨rfl, [], pl sd, [], [], .no, .no, rfl, rfl, fd_nil _, rfl⟩
  have ht : t = [] := by cases t with | nil => rfl | cons _ _ => cases q1
  subst ht
  rw [List.append_nil] at q2
  subst q2
  have e3 : subR s' (.v (lk st sd sp)) (.v (.int 1)) = some (.v (tI sd)) := by simp [lk]
  simp [Fu.btwice, List.replicate, n1, e3, e1, e]
theorem Ltwice_ (d : Nat) {st : Int} {sd sp : List Int} (h : Lk st sd sp) (s : Sto) : call Fu.tb (d + 6) .Ltwice [lk st sd sp] s = .ok (.v (mA (tw (fun p => st + zs (· * ·) p sp) (pl sd)))) s := by
  rw [call_eq rfl rfl]
  have e1 := Lcellsb_ d h.lb (st := st) s
  have e2 := Lplaces' (d + 1) h.h1 h.h2 s
  have b1 := pl_512 h.h1 h.h2
  have hcl := cs_len st sd sp
  have e3 : subR s (.v (lk st sd sp)) (.v (.int 1)) = some (.v (tI sd)) := by simp [lk]
  have hr := rng_rg (a := ((pl sd).length : Int)) (by omega) (by omega)
  have l := forL_or (F := Fu) (f := loopF (call Fu.tb (d + 5)) (.nm 3) Fu.bLtwice_1) (fun l env u => u = s ∧ ∃ (j k : Nat) (e3 : Sl), j + k = (pl sd).length ∧ l = ((List.range' j k).map fun (k : Nat) => (k : Int)).map .int ∧ tw (fun p => st + zs (· * ·) p sp) ((pl sd).drop j) = tw (fun p => st + zs (· * ·) p sp) (pl sd) ∧ env = [.v (lk st sd sp), .v (.lst ((cs st sd sp).map .int)), .v (.lst ((pl sd).map tI)), e3]) (fun r u => u = s ∧ r = .v (mA (tw (fun p => st + zs (· * ·) p sp) (pl sd)))) (by
    rintro x l env s ⟨rfl, j, k, e3, hjk, h4, q3, rfl⟩
    cases k with
    | zero => cases h4
    | succ k =>
      rw [List.range'_succ] at h4
      cases h4
      have hj : j < (pl sd).length := by omega
      have hj' : j < (cs st sd sp).length := by omega
      have a1 : L2.atI ((cs st sd sp).map AV.int) (j : Int) = some (.int (st + zs (· * ·) (pl sd)[j] sp)) := at_nat rfl (by simp [cs, hj])
      have a2 : L2.atI ((pl sd).map tI) (j : Int) = some (tI (pl sd)[j]) := at_nat rfl (by simp [hj])
      have cd := dp_cut (cs st sd sp) j hj'
      have cdr : (cs st sd sp).drop (j + 1) = ((pl sd).drop (j + 1)).map fun p => st + zs (· * ·) p sp := by unfold cs; rw [List.map_drop]
      have hsl : slcR s (.v (.lst ((cs st sd sp).map .int))) (some ((j : Int) + 1)) none = some (.tl (.lst (((cs st sd sp).drop (j + 1)).map .int))) := by
        rw [← cd]; rfl
      have hi := in_int s ((cs st sd sp).drop (j + 1)) (by simp; omega) (st + zs (· * ·) (pl sd)[j] sp)
      have hx := idx_int s ((cs st sd sp).drop (j + 1)) (by simp; omega) (st + zs (· * ·) (pl sd)[j] sp)
      have hf' := ix_find (fun p => st + zs (· * ·) p sp) (st + zs (· * ·) (pl sd)[j] sp) ((pl sd).drop (j + 1))
      rw [← cdr] at hf'
      rw [List.drop_eq_getElem_cons hj, tw] at q3
      cases hf : ((pl sd).drop (j + 1)).find? fun q => decide (st + zs (· * ·) q sp = st + zs (· * ·) (pl sd)[j] sp) with
      | none =>
        rw [hf] at q3
        have hn : st + zs (· * ·) (pl sd)[j] sp ∉ (cs st sd sp).drop (j + 1) := by
          intro hm
          rw [cdr] at hm
          obtain ⟨q, hq, e⟩ := List.mem_map.mp hm
          have := List.find?_eq_none.mp hf q hq
          simp [e] at this
        generalize (cs st sd sp).drop (j + 1) = m at *
        refine .inl ⟨_, s, ?_, rfl, j + 1, k, .v (.int j), by omega, rfl, q3, rfl⟩
        simp [loopF, Fu.bLtwice_1, a1, hsl, hi, hn]
      | some q =>
        rw [hf] at hf' q3
        have hm : st + zs (· * ·) (pl sd)[j] sp ∈ (cs st sd sp).drop (j + 1) := by
          have h1 := List.find?_some hf
          rw [cdr]
          exact List.mem_map.mpr ⟨q, List.mem_of_find?_eq_some hf, by simpa using h1⟩
        obtain ⟨i, j1, j2, j3⟩ := ix_mem hm
        rw [j1] at hf' hx
        have ea : L2.atI ((pl sd).map tI) ((j : Int) + 1 + i) = some (tI q) := at_nat (n := j + 1 + i) (by omega) (by
          have : (pl sd)[j + 1 + i]? = some q := by simpa using hf'
          rw [List.getElem?_map, this]; rfl)
        generalize (cs st sd sp).drop (j + 1) = m at *
        refine .inr ⟨.v (mA (some ((pl sd)[j], q))), [.v (lk st sd sp), .v (.lst ((cs st sd sp).map .int)), .v (.lst ((pl sd).map tI)), .v (.int j)], s, ?_, rfl, ?_⟩
        · simp [loopF, Fu.bLtwice_1, a1, hsl, hi, hm, hx, a2, ea, mA]
        · rw [← q3]) ((rg (pl sd).length).map .int) [.v (lk st sd sp), .v (.lst ((cs st sd sp).map .int)), .v (.lst ((pl sd).map tI)), .no] s ⟨rfl, 0, (pl sd).length, .no, by omega, by simp [rg, List.range_eq_range'], by simp, rfl⟩
  have hcl' : ((cs st sd sp).length : Int) = (pl sd).length := by omega
  rcases l with ⟨env', s', e, rfl, j, k, e4, hjk, h4, q3, rfl⟩ | ⟨r, env', s', e, rfl, rfl⟩
  · have hk : k = 0 := by cases k with | zero => rfl | succ m => rw [List.range'_succ] at h4; cases h4
    subst hk
    have : (pl sd).drop j = [] := by simp; omega
    rw [this] at q3
    rw [← q3]
    simp [Fu.bLtwice, List.replicate, e1, e2, e3, hcl', hr, e, tw, mA]
  · simp [Fu.bLtwice, List.replicate, e1, e2, e3, hcl', hr, e]
end LW

set_option maxRecDepth 100000
set_option maxHeartbeats 2000000
namespace LW
open EV PySem PySem.Spec
variable {ns : List Int} {rest : List Ob}
theorem c_ni (s : Sto) (x y : R) : cmpR s .notin x y = (inR s x y).map (!·) := by unfold cmpR; rfl
theorem in_two (s : Sto) (x a b : Int) : inR s (.v (.int x)) (.v (.tup [.int a, .int b])) = some (decide (a = x) || decide (b = x)) := by
  have e1 : dat s (.v (.int x)) = some (.int x) := rfl
  have e2 : dat s (.v (.tup [.int a, .int b])) = some (.tuple [.int a, .int b]) := rfl
  unfold inR
  rw [e1, e2]
  simp [flatD, int_eqv]
/-- may sides lie over wider ones -/
def mayB (sd w : List Int) : Bool := decide (sd.length ≤ w.length) && (sd.reverse.zip w.reverse).all fun p => decide (1 = p.1) || decide (p.2 = p.1)
theorem may_lie_ (d : Nat) (sd w : List Int) (s : Sto) : call Fu.tb (d + 1) .may_lie [tI sd, tI w] s = .ok (.v (.bl (mayB sd w))) s := by
  rw [call_eq rfl rfl]
  by_cases hl : sd.length ≤ w.length
  · have hl' : ¬ (w.length : Int) < sd.length := by omega
    have hz : ((sd.map AV.int).reverse.zip (w.map AV.int).reverse).map (fun p => AV.tup [p.1, p.2]) = (sd.reverse.zip w.reverse).map fun p => AV.tup [.int p.1, .int p.2] := by
      rw [← List.map_reverse, ← List.map_reverse, List.zip_map, List.map_map]
      rfl
    have l := forL_or (F := Fu) (f := loopF (call Fu.tb d) (.tp [2, 3]) Fu.bmay_lie_1) (fun l env u => u = s ∧ ∃ (t : List (Int × Int)) (e2 e3 : Sl), l = t.map (fun p => AV.tup [.int p.1, .int p.2]) ∧ (t.all fun p => decide (1 = p.1) || decide (p.2 = p.1)) = ((sd.reverse.zip w.reverse).all fun p => decide (1 = p.1) || decide (p.2 = p.1)) ∧ env = [.v (tI sd), .v (tI w), e2, e3]) (fun r u => u = s ∧ r = .v (.bl false) ∧ ((sd.reverse.zip w.reverse).all fun p => decide (1 = p.1) || decide (p.2 = p.1)) = false) (by
      rintro x l env s ⟨rfl, t, e2, e3, q1, q2, rfl⟩
      cases t with
      | nil => cases q1
      | cons p t =>
        cases q1
        rw [List.all_cons] at q2
        have hi := in_two s p.1 1 p.2
        cases hb : (decide (1 = p.1) || decide (p.2 = p.1)) with
        | true =>
          rw [hb] at q2 hi
          refine .inl ⟨_, s, ?_, rfl, t, .v (.int p.1), .v (.int p.2), rfl, by simpa using q2, rfl⟩
          simp [loopF, Fu.bmay_lie_1, setT, c_ni, hi]
        | false =>
          rw [hb] at q2 hi
          refine .inr ⟨.v (.bl false), [.v (tI sd), .v (tI w), .v (.int p.1), .v (.int p.2)], s, ?_, rfl, rfl, by rw [← q2]; rfl⟩
          simp [loopF, Fu.bmay_lie_1, setT, c_ni, hi]) ((sd.reverse.zip w.reverse).map fun p => AV.tup [.int p.1, .int p.2]) [.v (tI sd), .v (tI w), .no, .no] s ⟨rfl, _, .no, .no, rfl, rfl, rfl⟩
    rw [← hz] at l
    have hzr : ziprR (.v (tI sd)) (.v (tI w)) = some (((sd.map AV.int).reverse.zip (w.map AV.int).reverse).map (fun p => AV.tup [p.1, p.2])) := rfl
    have hit : isTup (.v (tI sd)) = true := rfl
    have hev : evi (call Fu.tb d) [.v (tI sd), .v (tI w), .no, .no] (.zipr (.var 0) (.var 1)) s = .ok (((sd.map AV.int).reverse.zip (w.map AV.int).reverse).map (fun p => AV.tup [p.1, p.2])) s := rfl
    rcases l with ⟨env', s', e, rfl, t, e2, e3, q1, q2, rfl⟩ | ⟨r, env', s', e, rfl, rfl, q⟩
    · have ht : t = [] := by cases t with | nil => rfl | cons _ _ => cases q1
      subst ht
      have hm : mayB sd w = true := by unfold mayB; rw [← q2]; simp [hl]
      simp only [tI] at e hev ⊢
      simp [Fu.bmay_lie, List.replicate, hl', hev, e, hm]
    · have hm : mayB sd w = false := by unfold mayB; rw [q]; simp
      simp only [tI] at e hev ⊢
      simp [Fu.bmay_lie, List.replicate, hl', hev, e, hm]
  · have hl' : (w.length : Int) < sd.length := by omega
    have hm : mayB sd w = false := by unfold mayB; simp [hl]
    simp [Fu.bmay_lie, List.replicate, tI, hl', hm]
theorem may_at {sd w : List Int} {m : Nat} (hw : w.length = m + sd.length) : mayB sd w = true ↔ ∀ i < sd.length, sd.getD i 0 = w.getD (m + i) 0 ∨ sd.getD i 0 = 1 := by
  unfold mayB
  have hl : sd.length ≤ w.length := by omega
  simp only [hl, decide_true, Bool.true_and, List.all_eq_true]
  constructor
  · intro h i hi
    have hj : sd.length - 1 - i < (sd.reverse.zip w.reverse).length := by simp; omega
    have hx := h _ (List.getElem_mem hj)
    rw [List.getElem_zip] at hx
    simp only [List.getElem_reverse, Bool.or_eq_true, decide_eq_true_eq] at hx
    have e1 : sd.length - 1 - (sd.length - 1 - i) = i := by omega
    have e2 : w.length - 1 - (sd.length - 1 - i) = m + i := by omega
    have hi2 : m + i < w.length := by omega
    simp only [e1, e2] at hx
    simp [hi, hi2]
    omega
  · intro h p hp
    obtain ⟨j, hj, rfl⟩ := List.getElem_of_mem hp
    rw [List.getElem_zip]
    have hj1 : j < sd.length := by simp at hj; omega
    have hx := h (sd.length - 1 - j) (by omega)
    have h1 : sd.length - 1 - j < sd.length := by omega
    have h2 : m + (sd.length - 1 - j) < w.length := by omega
    have e2 : w.length - 1 - j = m + (sd.length - 1 - j) := by omega
    simp only [List.getElem_reverse, Bool.or_eq_true, decide_eq_true_eq, e2]
    simp [h1, h2] at hx
    omega
end LW

set_option maxRecDepth 100000
set_option maxHeartbeats 2000000
namespace LW
open EV PySem PySem.Spec
variable {ns : List Int} {rest : List Ob}
/-- the steps of a look laid over wider sides -/
def ovS (w sd sp : List Int) : List Int := List.replicate (w.length - sd.length) 0 ++ (List.range sd.length).map (ovT w sd sp (w.length - sd.length))
theorem zip3_items {sd w sp : List Int} {m : Nat} (hw : w.length = m + sd.length) (hp : sp.length = sd.length) : ((sd.map AV.int).zip (((w.drop m).map AV.int).zip (sp.map AV.int))).map (fun p => AV.tup [p.1, p.2.1, p.2.2]) = (List.range sd.length).map fun i => AV.tup [.int (sd.getD i 0), .int (w.getD (m + i) 0), .int (sp.getD i 0)] := by
  refine List.ext_getElem (by simp; omega) fun i h1 h2 => ?_
  have hi : i < sd.length := by simpa using h2
  have h3 : m + i < w.length := by omega
  have h4 : i < sp.length := by omega
  simp [hi, h3, h4]
theorem over_ (d : Nat) {st : Int} {sd sp : List Int} (h : Lb sd sp) (w : List Int) (hl : sd.length ≤ w.length) (h3 : w.length ≤ 3) (s : Sto) : call Fu.tb (d + 1) .over [lk st sd sp, tI w] s = .ok (.v (lk st w (ovS w sd sp))) s := by
  rw [call_eq rfl rfl]
  obtain ⟨m, hM⟩ := Nat.exists_eq_add_of_le' hl
  have hm2 : w.length - sd.length = m := by omega
  unfold ovS
  rw [hm2]
  have hM2 : (w.length : Int) - sd.length = m := by omega
  have e0 : binR s .mul (.v (.tup [.int 0])) (.v (.int (m : Int))) = some (.v (tI (List.replicate m 0))) := by
    rw [b_tmul _ _ (by omega) (by omega) (szle (by simp; omega))]
    simp [tI]
  have hi := zip3_items hM h.h3
  have hcut : cutA (w.map AV.int) (some (m : Int)) none = (w.drop m).map AV.int := by
    rw [cut_drop _ m (by simp; omega), List.map_drop]
  obtain ⟨env', s', e, rfl, j, k, e7, e8, e9, hjk, h4, rfl⟩ := forL_ind (f := loopF (call Fu.tb d) (.tp [7, 8, 9]) Fu.bover_1) (fun l env t => t = s ∧ ∃ (j k : Nat) (e7 e8 e9 : Sl), j + k = sd.length ∧ l = (List.range' j k).map (fun i => AV.tup [.int (sd.getD i 0), .int (w.getD (m + i) 0), .int (sp.getD i 0)]) ∧ env = [.v (lk st sd sp), .v (tI w), .v (.int m), .v (tI (List.replicate m 0 ++ (List.range j).map (ovT w sd sp m))), .v (.int st), .v (tI sd), .v (tI sp), e7, e8, e9]) (by
    rintro x l env s ⟨rfl, j, k, e7, e8, e9, hjk, h4, rfl⟩
    cases k with
    | zero => cases h4
    | succ k =>
      rw [List.range'_succ] at h4
      cases h4
      have hs : m + j + 1 ≤ sizeLine := szle (by omega)
      refine ⟨_, s, ?_, rfl, j + 1, k, .v (.int (sd.getD j 0)), .v (.int (w.getD (m + j) 0)), .v (.int (sp.getD j 0)), by omega, rfl, rfl⟩
      have hj : j < sd.length := by omega
      have hj' : j < sp.length := by have := h.h3; omega
      have hj2 : m + j < w.length := by omega
      have ho : ovT w sd sp m j = if sd[j] = w[m + j] then sp[j] else 0 := by
        simp [ovT, hj, hj', hj2]
        split <;> simp
      by_cases c : sd[j] = w[m + j]
      · simp [loopF, Fu.bover_1, setT, tI, c, hs, List.range_succ, ho, hj, hj', hj2]
      · simp [loopF, Fu.bover_1, setT, tI, c, hs, List.range_succ, ho, hj, hj', hj2]) ((List.range sd.length).map fun i => AV.tup [.int (sd.getD i 0), .int (w.getD (m + i) 0), .int (sp.getD i 0)]) [.v (lk st sd sp), .v (tI w), .v (.int m), .v (tI (List.replicate m 0)), .v (.int st), .v (tI sd), .v (tI sp), .no, .no, .no] s ⟨rfl, 0, sd.length, .no, .no, .no, by omega, by simp [List.range_eq_range'], by simp⟩
  have hk : k = 0 := by cases k with | zero => rfl | succ m => rw [List.range'_succ] at h4; cases h4
  subst hk
  obtain rfl : j = sd.length := by omega
  rw [← hi] at e
  have hev : evi (call Fu.tb d) [.v (lk st sd sp), .v (tI w), .v (.int m), .v (tI (List.replicate m 0)), .v (.int st), .v (tI sd), .v (tI sp), .no, .no, .no] (.zip3 (.cons (.var 5) (.cons (.slc (.var 1) (.some (.var 2)) .none) (.cons (.var 6) .nil)))) s' = .ok (((sd.map AV.int).zip (((w.drop m).map AV.int).zip (sp.map AV.int))).map (fun p => AV.tup [p.1, p.2.1, p.2.2])) s' := by
    have e9 : evs (call Fu.tb d) [.v (lk st sd sp), .v (tI w), .v (.int m), .v (tI (List.replicate m 0)), .v (.int st), .v (tI sd), .v (tI sp), .no, .no, .no] (.cons (.var 5) (.cons (.slc (.var 1) (.some (.var 2)) .none) (.cons (.var 6) .nil))) s' = .ok [.v (.tup (sd.map .int)), .v (.tup ((w.drop m).map .int)), .v (.tup (sp.map .int))] s' := by
      simp [tI, hcut]
    show ((evs (call Fu.tb d) [.v (lk st sd sp), .v (tI w), .v (.int m), .v (tI (List.replicate m 0)), .v (.int st), .v (tI sd), .v (tI sp), .no, .no, .no] (.cons (.var 5) (.cons (.slc (.var 1) (.some (.var 2)) .none) (.cons (.var 6) .nil))) s').bind fun rs s => Rs.of (zip3R rs) s) = _
    rw [e9]
    rfl
  simp only [lk, tI, List.map_replicate, List.map_drop] at e hev e0
  simp [Fu.bover, lk, tI, List.replicate, hM2, e0, hev, e]
theorem laid_ (d : Nat) {st : Int} {sd sp : List Int} (h : Lb sd sp) (w : List Int) (hm : mayB sd w = true) (h3 : w.length ≤ 3) (s : Sto) : call Fu.tb (d + 2) .laid [lk st sd sp, tI w] s = .ok (.v (lk st w (ovS w sd sp))) s := by
  rw [call_eq rfl rfl]
  have hl : sd.length ≤ w.length := by
    unfold mayB at hm
    simp at hm
    exact hm.1
  have e1 := may_lie_ d sd w s
  have e2 := over_ d (st := st) h w hl h3 s
  have e3 : subR s (.v (lk st sd sp)) (.v (.int 1)) = some (.v (tI sd)) := by simp [lk]
  simp [Fu.blaid, List.replicate, e3, e1, hm, e2]
/-- what the law's over tells -/
theorem Lover_x (d : Nat) {st : Int} {sd sp : List Int} (h : Lk st sd sp) (w : List Int) (h3 : w.length ≤ 3) (h8 : ∀ x ∈ w, 0 ≤ x ∧ x ≤ 8) (s : Sto) : call Fu.tb (d + 1) .Lover [lk st sd sp, tI w] s = .ok (.v (optA (if mayB sd w = true then some (st, w, ovS w sd sp) else none))) s := by
  rw [call_eq rfl rfl]
  have hL := h.h3
  have h1 := h.h1
  have hr := rng_rg (a := (sd.length : Int)) (by omega) (by omega)
  by_cases hm : sd.length ≤ w.length
  · obtain ⟨m, hM⟩ := Nat.exists_eq_add_of_le' hm
    have hm2 : w.length - sd.length = m := by omega
    unfold ovS
    rw [hm2]
    have hM2 : (w.length : Int) - sd.length = m := by omega
    have e0 : binR s .mul (.v (.tup [.int 0])) (.v (.int (if 0 < m then (m : Int) else 0))) = some (.v (tI (List.replicate m 0))) := by
      rw [show (if 0 < m then (m : Int) else 0) = m by split <;> omega]
      rw [b_tmul _ _ (by omega) (by omega) (szle (by simp; omega))]
      simp [tI]
    have l := forL_or (F := Fu) (f := loopF (call Fu.tb d) (.nm 4) Fu.bLover_1) (fun l env t => t = s ∧ ∃ (j k : Nat) (e4 e5 : Sl), j + k = sd.length ∧ l = ((List.range' j k).map fun (k : Nat) => (k : Int)).map .int ∧ (∀ i < j, sd.getD i 0 = w.getD (m + i) 0 ∨ sd.getD i 0 = 1) ∧ env = [.v (lk st sd sp), .v (tI w), .v (.int m), .v (tI (List.replicate m 0 ++ (List.range j).map (ovT w sd sp m))), e4, e5]) (fun r t => t = s ∧ r = .v .non ∧ ¬ ∀ i < sd.length, sd.getD i 0 = w.getD (m + i) 0 ∨ sd.getD i 0 = 1) (by
      rintro x l env s ⟨rfl, j, k, e4, e5, hjk, h4, hc, rfl⟩
      cases k with
      | zero => cases h4
      | succ k =>
        rw [List.range'_succ] at h4
        cases h4
        have hj : j < sd.length := by omega
        have hj' : j < sp.length := by omega
        have hj2 : m + j < w.length := by omega
        have a1 : L2.atI (sd.map AV.int) (j : Int) = some (.int sd[j]) := at_nat rfl (by simp [hj])
        have a2 : L2.atI (sp.map AV.int) (j : Int) = some (.int sp[j]) := at_nat rfl (by simp [hj'])
        have a3 : L2.atI (w.map AV.int) ((m : Int) + j) = some (.int w[m + j]) := at_nat (n := m + j) (by omega) (by simp [hj2])
        have hs : m + j + 1 ≤ sizeLine := szle (by omega)
        have hm0 : ¬ (m : Int) < 0 := by omega
        by_cases c : sd[j] = w[m + j]
        · refine .inl ⟨_, s, ?_, rfl, j + 1, k, .v (.int j), .v (.int sd[j]), by omega, rfl, ?_, rfl⟩
          · have hm1 : mulOk sp[j] 1 = true := by unfold mulOk; simp
            simp [loopF, Fu.bLover_1, lk, tI, a1, a2, a3, hm0, c, hs, hm1, List.range_succ, ovT, hj, hj', hj2]
          · intro i hi
            by_cases hij : i = j
            · subst hij; left; simp [hj, hj2, c]
            · exact hc i (by omega)
        · by_cases c1 : sd[j] = 1
          · refine .inl ⟨_, s, ?_, rfl, j + 1, k, .v (.int j), .v (.int sd[j]), by omega, rfl, ?_, rfl⟩
            · have hm1 : mulOk sp[j] 0 = true := by unfold mulOk; simp
              rw [c1] at c
              simp [loopF, Fu.bLover_1, lk, tI, a1, a2, a3, hm0, c, c1, hs, hm1, List.range_succ, ovT, hj, hj', hj2]
            · intro i hi
              by_cases hij : i = j
              · subst hij; right; simp [hj, c1]
              · exact hc i (by omega)
          · refine .inr ⟨.v .non, [.v (lk st sd sp), .v (tI w), .v (.int m), .v (tI (List.replicate m 0 ++ (List.range j).map (ovT w sd sp m))), .v (.int j), .v (.int sd[j])], s, ?_, rfl, rfl, fun hall => ?_⟩
            · simp [loopF, Fu.bLover_1, lk, tI, a1, a2, a3, hm0, c, c1]
            · have := hall j hj
              simp [hj, hj2, c, c1] at this) ((rg sd.length).map .int) [.v (lk st sd sp), .v (tI w), .v (.int m), .v (tI (List.replicate m 0)), .no, .no] s ⟨rfl, 0, sd.length, .no, .no, by omega, by simp [rg, List.range_eq_range'], by simp, by simp⟩
    rcases l with ⟨env', s', e, rfl, j, k, e4, e5, hjk, h4, hc, rfl⟩ | ⟨r, env', s', e, rfl, rfl, hn⟩
    · have hk : k = 0 := by cases k with | zero => rfl | succ m => rw [List.range'_succ] at h4; cases h4
      subst hk
      obtain rfl : j = sd.length := by omega
      rw [if_pos ((may_at hM).mpr hc)]
      simp only [lk, tI, List.map_replicate] at e e0
      have hm0 : (0 : Int) ≤ m := by omega
      simp [Fu.bLover, lk, tI, List.replicate, hM2, e0, hr, e, hm0, optA]
    · rw [if_neg fun q => hn ((may_at hM).mp q)]
      simp only [lk, tI, List.map_replicate] at e e0
      simp [Fu.bLover, lk, tI, List.replicate, hM2, e0, hr, e, optA]
  · have hf : mayB sd w = false := by unfold mayB; simp [hm]
    rw [hf]
    cases sd with
    | nil => simp at hm
    | cons a r =>
      have e1 : rg (((a :: r).length : Nat) : Int) = 0 :: (List.range' 1 r.length).map fun (k : Nat) => (k : Int) := by
        simp [rg, List.range_eq_range', List.range'_succ]
      rw [e1] at hr
      have hm0 : (w.length : Int) - (a :: r).length < 0 := by omega
      have e0 : binR s .mul (.v (.tup [.int 0])) (.v (.int 0)) = some (.v (.tup [])) := by
        rw [b_tmul _ _ (by omega) (by omega) (szle (by simp))]
        simp
      have hm2 : ¬ 0 < (w.length : Int) - (a :: r).length := by omega
      generalize hq : (w.length : Int) - (a :: r).length = q at *
      have hq' : (w.length : Int) - ((r.length : Int) + 1) = q := by simp at hq; omega
      simp [Fu.bLover, lk, tI, List.replicate, hq, hq', hm0, hm2, e0, optA] at hr ⊢
      simp [hr, forL, loopF, Fu.bLover_1, hm0]
end LW

set_option maxRecDepth 100000
set_option maxHeartbeats 2000000
namespace LW
open EV PySem PySem.Spec
/-! ### hinders -/
theorem look_repl {A : Type} [DecidableEq A] {q q' : A} {x : AV} : ∀ {ks : List A} {vs : List AV}, ks.length = vs.length → look ks (repl ks vs q x) q' = if q = q' then (look ks vs q').map (fun _ => x) else look ks vs q'
  | [], [], _ => by simp [look, repl]
  | [], _ :: _, h => by simp at h
  | _ :: _, [], h => by simp at h
  | k :: ks, v :: vs, h => by
    have ih := look_repl (q := q) (q' := q') (x := x) (ks := ks) (vs := vs) (by simpa using h)
    simp only [repl, look, ih]
    by_cases h1 : k = q'
    · subst h1
      by_cases h2 : q = k
      · subst h2; simp
      · simp [h2, Ne.symm h2]
    · simp [h1]
theorem repl_len {A : Type} [DecidableEq A] {q : A} {x : AV} : ∀ {ks : List A} {vs : List AV}, ks.length = vs.length → (repl ks vs q x).length = ks.length
  | [], [], _ => by simp [repl]
  | [], _ :: _, h => by simp at h
  | _ :: _, [], h => by simp at h
  | k :: ks, v :: vs, h => by simp [repl, repl_len (by simpa using h)]
theorem look_some_any {A : Type} [DecidableEq A] {q : A} : ∀ {ks : List A} {vs : List AV}, ks.length = vs.length → (ks.any fun k => decide (k = q)) = true → ∃ a, look ks vs q = some a
  | [], _, _, h => by simp at h
  | _ :: _, [], h, _ => by simp at h
  | k :: ks, v :: vs, h, e => by
    by_cases c : k = q
    · exact ⟨v, by simp [look, c]⟩
    · simp [c] at e
      obtain ⟨a, ha⟩ := look_some_any (q := q) (ks := ks) (vs := vs) (by simpa using h) (by simpa using e)
      exact ⟨a, by simp [look, c, ha]⟩
theorem look_store {A : Type} [DecidableEq A] {q q' : A} {x : AV} {ks : List A} {vs : List AV} (h : ks.length = vs.length) : look (store ks vs q x).1 (store ks vs q x).2 q' = if q = q' then some x else look ks vs q' := by
  unfold store
  split
  · rename_i c
    rw [look_repl h]
    obtain ⟨a, ha⟩ := look_some_any h c
    by_cases e : q = q'
    · subst e; simp [ha]
    · simp [e]
  · rename_i c
    rw [look_app h]
    by_cases e : q = q'
    · subst e
      have hn : look ks vs q = none := by
        cases hk : look ks vs q with
        | none => rfl
        | some a =>
          exfalso
          apply c
          clear c
          induction ks generalizing vs with
          | nil => simp [look] at hk
          | cons k ks ih =>
            cases vs with
            | nil => simp at h
            | cons v vs =>
              by_cases e : k = q
              · simp [e]
              · simp only [look, e, if_false] at hk
                have := ih (by simpa using h) hk
                simp [e]
                simpa using this
      simp [hn]
    · simp [e]
theorem store_len {A : Type} [DecidableEq A] {q : A} {x : AV} {ks : List A} {vs : List AV} (h : ks.length = vs.length) : (store ks vs q x).1.length = (store ks vs q x).2.length ∧ (store ks vs q x).2.length ≤ vs.length + 1 := by
  unfold store
  split
  · simp [repl_len h, h]
  · simp [h]
/-- the last places -/
structure LD (ks : List L2.Key) (vs : List AV) (l : List Int) : Prop where
  h1 : ks.length = vs.length
  h2 : vs.length ≤ l.length
  h3 : ∀ c : Int, (c ∉ l → look ks vs (.inl c) = none) ∧ (c ∈ l → ∃ j : Nat, look ks vs (.inl c) = some (.int j) ∧ l[j]? = some c ∧ ∀ k, j < k → l[k]? ≠ some c)
theorem ld_push {ks : List L2.Key} {vs : List AV} {l : List Int} (h : LD ks vs l) (c : Int) : LD (store ks vs (.inl c) (.int l.length)).1 (store ks vs (.inl c) (.int l.length)).2 (l ++ [c]) := by
  obtain ⟨s1, s2⟩ := store_len (q := (.inl c : L2.Key)) (x := .int l.length) h.h1
  refine ⟨s1, by have := h.h2; simp; omega, fun d => ?_⟩
  rw [look_store h.h1]
  by_cases e : c = d
  · subst e
    refine ⟨fun q => absurd (by simp) q, fun _ => ⟨l.length, by simp, by simp, fun k hk => ?_⟩⟩
    rw [List.getElem?_eq_none (by simp; omega)]
    simp
  · have e' : ¬ ((.inl c : L2.Key) = .inl d) := fun q => e (Sum.inl.inj q)
    rw [if_neg e']
    obtain ⟨g1, g2⟩ := h.h3 d
    refine ⟨fun q => g1 fun r => q (by simp [r]), fun q => ?_⟩
    have q : d ∈ l := by simpa [Ne.symm e] using q
    obtain ⟨j, j1, j2, j3⟩ := g2 q
    have hj : j < l.length := (List.getElem?_eq_some_iff.mp j2).1
    refine ⟨j, j1, by rw [List.getElem?_append_left hj]; exact j2, fun k hk => ?_⟩
    by_cases c1 : k < l.length
    · rw [List.getElem?_append_left c1]; exact j3 k hk
    · by_cases c2 : k = l.length
      · subst c2; simp [e]
      · rw [List.getElem?_eq_none (by simp; omega)]; simp
def enL : Nat → List Int → List AV
  | _, [] => []
  | j, c :: l => .tup [.int j, .int c] :: enL (j + 1) l
theorem en_eq : ∀ (j : Nat) (l : List Int), ((List.range' j l.length).zip (l.map AV.int)).map (fun p => AV.tup [.int (p.1 : Nat), p.2]) = enL j l
  | j, [] => by simp [enL]
  | j, c :: l => by simp [enL, List.range'_succ, en_eq (j + 1) l]
theorem enum_l (l : List Int) : enumR [.v (.lst (l.map AV.int))] = some (enL 0 l) := by
  rw [← en_eq 0 l, ← List.range_eq_range']
  show some (((List.range (l.map AV.int).length).zip (l.map AV.int)).map fun p => AV.tup [.int (p.1 : Nat), p.2]) = _
  rw [List.length_map]
/-- the first hindrance -/
def hnd (rd : List Int) : Nat → List Int → Option (Nat × Nat)
  | _, [] => none
  | i, c :: l => match ix c (rd.drop (i + 1)) with
    | some k => some (i, i + 1 + k)
    | none => hnd rd (i + 1) l
def hA : Option (Nat × Nat) → AV
  | none => .non
  | some (i, j) => .tup [.int i, .int j]
theorem ld_gt {ks : List L2.Key} {vs : List AV} {rd : List Int} (h : LD ks vs rd) (c : Int) (i : Nat) : ∃ v : Int, (look ks vs (.inl c)).getD (.int (-1)) = .int v ∧ ((i : Int) < v ↔ c ∈ rd.drop (i + 1)) := by
  obtain ⟨g1, g2⟩ := h.h3 c
  by_cases hc : c ∈ rd
  · obtain ⟨j, j1, j2, j3⟩ := g2 hc
    refine ⟨j, by simp [j1], ⟨fun q => ?_, fun q => ?_⟩⟩
    · refine List.mem_iff_getElem?.mpr ⟨j - (i + 1), ?_⟩
      rw [List.getElem?_drop, show i + 1 + (j - (i + 1)) = j by omega]
      exact j2
    · obtain ⟨k, hk⟩ := List.mem_iff_getElem?.mp q
      rw [List.getElem?_drop] at hk
      by_cases hj : j < i + 1 + k
      · exact absurd hk (j3 _ hj)
      · omega
  · refine ⟨-1, by simp [g1 hc], ⟨fun q => by omega, fun q => absurd (List.mem_of_mem_drop q) hc⟩⟩
theorem idx3_int (s : Sto) (l : List Int) (hl : l.length ≤ 4096) (c : Int) (b : Nat) : idx3R s (.v (.lst (l.map .int))) (.v (.int c)) (.v (.int (b : Int))) = (ix c (l.drop b)).map fun (j : Nat) => .v (.int ((b + j : Nat) : Int)) := by
  have e1 := shaped_lints l hl
  have e3 : dat s (.v (.int c)) = some (.int c) := rfl
  unfold idx3R
  rw [dat_lI, e3]
  have hb : decide ((0 : Int) ≤ (b : Int)) = true := by simp
  simp only [e1, sh_int, Bool.and_self, if_true, hb, Int.toNat_natCast]
  rw [← List.map_drop, idxD_ix PyData.int int_eqv]
theorem hinders_ (d : Nat) (wr rd : List Int) (hw : wr.length ≤ 512) (hr : rd.length ≤ 512) (s : Sto) : call Fu.tb (d + 1) .hinders [.lst (wr.map .int), .lst (rd.map .int)] s = .ok (.v (hA (hnd rd 0 wr))) s := by
  rw [call_eq rfl rfl]
  obtain ⟨env', s', e, rfl, dn, t, ks, vs, e3, e4, q1, q2, q3, rfl⟩ := forL_ind (f := loopF (call Fu.tb d) (.tp [3, 4]) Fu.bhinders_2) (fun l env u => u = s ∧ ∃ (dn t : List Int) (ks : List L2.Key) (vs : List AV) (e3 e4 : Sl), l = enL dn.length t ∧ dn ++ t = rd ∧ LD ks vs dn ∧ env = [.v (.lst (wr.map .int)), .v (.lst (rd.map .int)), .own (.dic ks vs), e3, e4]) (by
    rintro x l env s ⟨rfl, dn, t, ks, vs, e3, e4, q1, q2, q3, rfl⟩
    cases t with
    | nil => cases q1
    | cons c t =>
      cases q1
      have hl : vs.length < sizeLine := szlt (by
        have := q3.h2
        have := congrArg List.length q2
        simp at this
        omega)
      refine ⟨_, s, ?_, rfl, dn ++ [c], t, _, _, .v (.int dn.length), .v (.int c), by simp, by simpa using q2, ld_push q3 c, rfl⟩
      simp [loopF, Fu.bhinders_2, setT, hl]) (enL 0 rd) [.v (.lst (wr.map .int)), .v (.lst (rd.map .int)), .own (.dic [] []), .no, .no] s ⟨rfl, [], rd, [], [], .no, .no, rfl, rfl, ⟨rfl, by simp, fun c => ⟨fun _ => by simp [look], fun h => by cases h⟩⟩, rfl⟩
  have ht : t = [] := by cases t with | nil => rfl | cons _ _ => cases q1
  subst ht
  rw [List.append_nil] at q2
  subst q2
  have l2 := forL_or (F := Fu) (f := loopF (call Fu.tb d) (.tp [3, 4]) Fu.bhinders_1) (fun l env u => u = s' ∧ ∃ (i : Nat) (t : List Int) (e3 e4 : Sl), l = enL i t ∧ hnd dn i t = hnd dn 0 wr ∧ env = [.v (.lst (wr.map .int)), .v (.lst (dn.map .int)), .own (.dic ks vs), e3, e4]) (fun r u => u = s' ∧ r = .v (hA (hnd dn 0 wr))) (by
    rintro x l env s ⟨rfl, i, t, e3, e4, q1, q2, rfl⟩
    cases t with
    | nil => cases q1
    | cons c t =>
      cases q1
      obtain ⟨v, v1, v2⟩ := ld_gt q3 c i
      have hx := idx3_int s dn (by omega) c (i + 1)
      have hc1 : (((i + 1 : Nat) : Int)) = (i : Int) + 1 := by omega
      rw [hc1] at hx
      have e9 : hnd dn i (c :: t) = match ix c (dn.drop (i + 1)) with
        | some k => some (i, i + 1 + k)
        | none => hnd dn (i + 1) t := rfl
      rw [e9] at q2
      by_cases hm : c ∈ dn.drop (i + 1)
      · obtain ⟨k, k1, k2, k3⟩ := ix_mem hm
        rw [k1] at hx q2
        have hv := v2.mpr hm
        refine .inr ⟨.v (hA (some (i, i + 1 + k))), [.v (.lst (wr.map .int)), .v (.lst (dn.map .int)), .own (.dic ks vs), .v (.int i), .v (.int c)], s, ?_, rfl, ?_⟩
        · have hx : opR3 s .idx3 (.v (.lst (dn.map .int))) (.v (.int c)) (.v (.int ((i : Int) + 1))) = some (.v (.int ((i + 1 + k : Nat) : Int))) := by
            rw [show opR3 s .idx3 = idx3R s from rfl, hx]; rfl
          have hd : opR3 s .dget2 (.bo (.dic ks vs)) (.v (.int c)) (.v (.int (-1))) = some (.v (.int v)) := by
            rw [show opR3 s .dget2 = get2R s from rfl]
            unfold get2R
            simp [v1]
          have o1 : op3L s .idx3 (.v (.lst (dn.map .int))) = true := rfl
          have o2 : op3L s .dget2 (.bo (.dic ks vs)) = true := rfl
          simp [loopF, Fu.bhinders_1, setT, EV.rd, o1, o2, hd, hx, hv, hA]
        · rw [← q2]
      · have k1 := ix_none hm
        rw [k1] at q2
        have hv : ¬ (i : Int) < v := fun q => hm (v2.mp q)
        refine .inl ⟨_, s, ?_, rfl, i + 1, t, .v (.int i), .v (.int c), rfl, q2, rfl⟩
        have hd : opR3 s .dget2 (.bo (.dic ks vs)) (.v (.int c)) (.v (.int (-1))) = some (.v (.int v)) := by
          rw [show opR3 s .dget2 = get2R s from rfl]
          unfold get2R
          simp [v1]
        have o2 : op3L s .dget2 (.bo (.dic ks vs)) = true := rfl
        simp [loopF, Fu.bhinders_1, setT, EV.rd, o2, hd, hv]) (enL 0 wr) [.v (.lst (wr.map .int)), .v (.lst (dn.map .int)), .own (.dic ks vs), e3, e4] s' ⟨rfl, 0, wr, e3, e4, rfl, rfl, rfl⟩
  have n1 := enum_l dn
  have n2 := enum_l wr
  rcases l2 with ⟨env', s2, f, rfl, i, t, e5, e6, r1, r2, rfl⟩ | ⟨r, env', s2, f, rfl, rfl⟩
  · have ht : t = [] := by cases t with | nil => rfl | cons _ _ => cases r1
    subst ht
    rw [← r2]
    simp [Fu.bhinders, List.replicate, n1, n2, e, f, hnd, hA]
  · simp [Fu.bhinders, List.replicate, n1, n2, e, f]
end LW

set_option maxRecDepth 100000
set_option maxHeartbeats 2000000
namespace LW
open EV PySem PySem.Spec
theorem c_notn (s : Sto) (x : R) : cmpR s .notn x (.v .non) = some (!isNon x) := by unfold cmpR; rfl
theorem rng_down (n : Nat) (hn : n ≤ 512) : rngR 3 [.v (.int ((n : Int) - 1)), .v (.int (-1)), .v (.int (-1))] = some ((List.range n).map fun (k : Nat) => AV.int ((n : Int) - 1 - k)) := by
  have e1 : Builtin.Range.rangeSize ((n : Int) - 1) (-1) (-1) = n := by
    unfold Builtin.Range.rangeSize
    simp
    omega
  have e2 : Builtin.Range.small ((n : Int) - 1) (-1) (-1) = true := by
    unfold Builtin.Range.small
    rw [e1]
    have f : ∀ x : Int, -1 ≤ x → x ≤ 512 → Builtin.Range.rangeFitsLong x = true := fun x h1 h2 => by
      unfold Builtin.Range.rangeFitsLong
      simp
      omega
    rw [f _ (by omega) (by omega), f _ (by omega) (by omega), f _ (by omega) (by omega)]
    simp
    right
    exact f _ (by omega) (by omega)
  show (if decide ((-1 : Int) ≠ 0) && decide ((-1 : Int).natAbs < 1073741824) && Builtin.Range.small ((n : Int) - 1) (-1) (-1) && decide (0 ≤ Builtin.Range.rangeSize ((n : Int) - 1) (-1) (-1)) then some ((List.range (Builtin.Range.rangeSize ((n : Int) - 1) (-1) (-1)).toNat).map fun (k : Nat) => AV.int ((n : Int) - 1 + k * (-1))) else none) = _
  rw [e1, e2]
  simp
  intro k _
  omega
/-- a cell that is written twice, from behind -/
def dup (wr : List Int) : Nat → Option (Nat × Nat)
  | 0 => none
  | i + 1 => match ix (wr.getD i 0) (wr.drop (i + 1)) with
    | some k => some (i + 1 + k, i)
    | none => dup wr i
/-- the first hindrance from behind -/
def hbk (wr rd : List Int) (alone : Bool) : Option (Nat × Nat) := match hnd rd.reverse 0 wr.reverse with
  | some (a, b) => some (wr.length - 1 - a, wr.length - 1 - b)
  | none => if alone = true then dup wr wr.length else none
theorem hnd_lt (rd : List Int) : ∀ (i : Nat) (wr : List Int) {a b : Nat}, hnd rd i wr = some (a, b) → a < i + wr.length ∧ b < rd.length
  | i, [], a, b, h => by cases h
  | i, c :: l, a, b, h => by
    have e9 : hnd rd i (c :: l) = match ix c (rd.drop (i + 1)) with
      | some k => some (i, i + 1 + k)
      | none => hnd rd (i + 1) l := rfl
    rw [e9] at h
    by_cases hm : c ∈ rd.drop (i + 1)
    · obtain ⟨k, k1, k2, k3⟩ := ix_mem hm
      rw [k1] at h
      cases h
      simp at k2 ⊢
      omega
    · rw [ix_none hm] at h
      have := hnd_lt rd (i + 1) l h
      simp
      omega
theorem hinders_back_ (d : Nat) (wr rd : List Int) (hw : wr.length ≤ 512) (hr : rd.length = wr.length) (alone : Bool) (s : Sto) : call Fu.tb (d + 2) .hinders_back [.lst (wr.map .int), .lst (rd.map .int), .bl alone] s = .ok (.v (hA (hbk wr rd alone))) s := by
  rw [call_eq rfl rfl]
  have e1 := hinders_ d wr.reverse rd.reverse (by simpa using hw) (by simp; omega) s
  unfold hbk
  cases hf : hnd rd.reverse 0 wr.reverse with
  | some ab =>
    obtain ⟨a, b⟩ := ab
    have hlt := hnd_lt rd.reverse 0 wr.reverse hf
    simp at hlt
    rw [hf] at e1
    have c1 : (((wr.length - 1 - a : Nat) : Nat) : Int) = (wr.length : Int) - 1 - a := by omega
    have c2 : (((wr.length - 1 - b : Nat) : Nat) : Int) = (wr.length : Int) - 1 - b := by omega
    simp only [List.map_reverse, hA] at e1
    simp [Fu.bhinders_back, List.replicate, e1, c_notn, isNon, hA, c1, c2]
  | none =>
    rw [hf] at e1
    simp only [List.map_reverse, hA] at e1
    cases alone with
    | false => simp [Fu.bhinders_back, List.replicate, e1, c_notn, isNon, hA]
    | true =>
      have hrg := rng_down wr.length hw
      have l2 := forL_or (F := Fu) (f := loopF (call Fu.tb (d + 1)) (.nm 6) Fu.bhinders_back_1) (fun l env u => u = s ∧ ∃ (i j : Nat) (ks : List L2.Key) (vs : List AV) (e6 : Sl), i + j = wr.length ∧ l = (List.range' j i).map (fun (k : Nat) => AV.int ((wr.length : Int) - 1 - k)) ∧ dup wr i = dup wr wr.length ∧ ks.length = vs.length ∧ vs.length ≤ j ∧ (∀ c : Int, look ks vs (.inl c) = (ix c (wr.drop i)).map fun k => AV.int ((i + k : Nat) : Int)) ∧ env = [.v (.lst (wr.map .int)), .v (.lst (rd.map .int)), .v (.bl true), .v (.int wr.length), .v .non, .own (.dic ks vs), e6]) (fun r u => u = s ∧ r = .v (hA (dup wr wr.length))) (by
        rintro x l env s ⟨rfl, i, j, ks, vs, e6, hij, q1, q2, q3, q4, q5, rfl⟩
        cases i with
        | zero => cases q1
        | succ i =>
          rw [List.range'_succ] at q1
          cases q1
          have hi : i < wr.length := by omega
          have ej : (wr.length : Int) - 1 - j = i := by omega
          have a1 : L2.atI (wr.map AV.int) ((wr.length : Int) - 1 - j) = some (.int wr[i]) := at_nat (n := i) ej (by simp [hi])
          have a2 : L2.atI (wr.map AV.int) (i : Int) = some (.int wr[i]) := at_nat (n := i) rfl (by simp [hi])
          have hq := q5 wr[i]
          have e9 : dup wr (i + 1) = match ix (wr.getD i 0) (wr.drop (i + 1)) with
            | some k => some (i + 1 + k, i)
            | none => dup wr i := rfl
          rw [e9, getD_at hi] at q2
          by_cases hm : wr[i] ∈ wr.drop (i + 1)
          · obtain ⟨k, k1, k2, k3⟩ := ix_mem hm
            rw [k1] at hq q2
            refine .inr ⟨.v (hA (some (i + 1 + k, i))), [.v (.lst (wr.map .int)), .v (.lst (rd.map .int)), .v (.bl true), .v (.int wr.length), .v .non, .own (.dic ks vs), .v (.int ((wr.length : Int) - 1 - j))], s, ?_, rfl, by rw [← q2]⟩
            simp at hq
            simp [loopF, Fu.bhinders_back_1, EV.rd, a1, a2, hq, hA, ej]
          · have k1 := ix_none hm
            rw [k1] at hq q2
            have hl : vs.length < sizeLine := szlt (by omega)
            obtain ⟨s1, s2⟩ := store_len (q := (.inl wr[i] : L2.Key)) (x := .int ((wr.length : Int) - 1 - j)) q3
            refine .inl ⟨_, s, ?_, rfl, i, j + 1, _, _, .v (.int ((wr.length : Int) - 1 - j)), by omega, rfl, q2, s1, by omega, fun c => ?_, rfl⟩
            · simp at hq
              simp [loopF, Fu.bhinders_back_1, EV.rd, a1, hq, hl]
            · rw [look_store q3, q5, List.drop_eq_getElem_cons hi]
              by_cases ec : wr[i] = c
              · subst ec
                simp [ix, ej]
              · have ec' : ¬ ((.inl wr[i] : L2.Key) = .inl c) := fun q => ec (Sum.inl.inj q)
                rw [if_neg ec']
                simp only [ix, ec, if_false, Option.map_map]
                congr 1
                funext k
                simp only [Function.comp_apply]
                congr 1
                omega) ((List.range wr.length).map fun (k : Nat) => AV.int ((wr.length : Int) - 1 - k)) [.v (.lst (wr.map .int)), .v (.lst (rd.map .int)), .v (.bl true), .v (.int wr.length), .v .non, .own (.dic [] []), .no] s ⟨rfl, wr.length, 0, [], [], .no, by omega, by simp [List.range_eq_range'], rfl, rfl, by simp, fun c => by simp [look, ix], rfl⟩
      rcases l2 with ⟨env', s2, f, rfl, i, j, ks, vs, e6, r0, r1, r2, _, _, _, rfl⟩ | ⟨r, env', s2, f, rfl, rfl⟩
      · have hi : i = 0 := by cases i with | zero => rfl | succ m => rw [List.range'_succ] at r1; cases r1
        subst hi
        simp only [if_true]
        rw [← r2]
        simp [Fu.bhinders_back, List.replicate, e1, c_notn, isNon, hrg, f, hA, dup]
      · simp [Fu.bhinders_back, List.replicate, e1, c_notn, isNon, hrg, f]
end LW

set_option maxRecDepth 100000
set_option maxHeartbeats 2000000
namespace LW
open EV PySem PySem.Spec
theorem may_len {sd w : List Int} (hm : mayB sd w = true) : sd.length ≤ w.length := by
  unfold mayB at hm
  simp at hm
  exact hm.1
theorem zs_le : ∀ l m : List Int, zs lo1 l m ≤ zs hi1 l m
  | [], m => by simp [zs]
  | x :: l, [] => by simp [zs]
  | x :: l, y :: m => by
    have := zs_le l m
    simp only [zs, lo1, hi1]
    omega
theorem laid_lk {st : Int} {sd sp w : List Int} (h : Lk st sd sp) (hm : mayB sd w = true) (h3 : w.length ≤ 3) (h8 : ∀ x ∈ w, 0 ≤ x ∧ x ≤ 8) : Lk st w (ovS w sd sp) := by
  have hl := may_len hm
  have hM : w.length = (w.length - sd.length) + sd.length := by omega
  have g := over_good (st := st) h hM h3 h8 ((may_at hM).mp hm)
  obtain ⟨g1, g2⟩ := g st w (ovS w sd sp) rfl
  refine ⟨h3, h8, g1.h3, fun x hx => ?_, h.h5, ?_⟩
  · unfold ovS at hx
    rcases List.mem_append.mp hx with hx | hx
    · have := (List.mem_replicate.mp hx).2; omega
    · obtain ⟨i, hi, rfl⟩ := List.mem_map.mp hx
      have hi : i < sp.length := by rw [h.h3]; exact List.mem_range.mp hi
      have := h.h4 sp[i] (List.getElem_mem hi)
      unfold ovT
      simp [hi]
      split <;> omega
  · rcases g2 with g2 | g2
    · exact .inl g2
    · exact .inr ⟨g2.1, by have := zs_le w (ovS w sd sp); omega, g2.2⟩
/-! ### plans -/
inductive Pn where
  | forth | back | copy (a b c d : List Int)
def Pn.av : Pn → AV
  | .forth => .tup [.str "forth"]
  | .back => .tup [.str "back"]
  | .copy a b c d => .tup [.str "copy", .tup [tI a, tI b], .tup [tI c, tI d]]
def planF (gd : List Int) (wr rd : List Int) (alone : Bool) : Pn := match hnd rd 0 wr with
  | none => .forth
  | some (i, j) => match hbk wr rd alone with
    | none => .back
    | some (k, l) => .copy ((pl gd).getD i []) ((pl gd).getD j []) ((pl gd).getD k []) ((pl gd).getD l [])
theorem sh_set : SeqAt.shaped (.str "set") = true := sh_w _ rfl
theorem sh_add : SeqAt.shaped (.str "add") = true := sh_w _ rfl
theorem q_set (s : Sto) : eqR s (.v (.str "set")) (.v (.str "set")) = some true ∧ eqR s (.v (.str "add")) (.v (.str "set")) = some false ∧ eqR s (.v (.str "add")) (.v (.str "add")) = some true ∧ eqR s (.v (.str "set")) (.v (.str "add")) = some false := by
  rw [q_strs s _ _ sh_set sh_set, q_strs s _ _ sh_add sh_set, q_strs s _ _ sh_add sh_add, q_strs s _ _ sh_set sh_add]; exact ⟨rfl, rfl, rfl, rfl⟩
def wd (alone : Bool) : AV := .str (if alone = true then "set" else "add")
theorem q_wd (s : Sto) (alone : Bool) : eqR s (.v (wd alone)) (.v (.str "set")) = some alone := by
  cases alone
  · exact (q_set s).2.1
  · exact (q_set s).1
theorem dup_lt (wr : List Int) : ∀ (i : Nat) {a b : Nat}, i ≤ wr.length → dup wr i = some (a, b) → a < wr.length ∧ b < wr.length
  | 0, a, b, _, h => by cases h
  | i + 1, a, b, hi, h => by
    have e9 : dup wr (i + 1) = match ix (wr.getD i 0) (wr.drop (i + 1)) with
      | some k => some (i + 1 + k, i)
      | none => dup wr i := rfl
    rw [e9] at h
    by_cases hm : wr.getD i 0 ∈ wr.drop (i + 1)
    · obtain ⟨k, k1, k2, k3⟩ := ix_mem hm
      rw [k1] at h
      cases h
      simp at k2
      omega
    · rw [ix_none hm] at h
      exact dup_lt wr i (by omega) h
theorem hbk_lt {wr rd : List Int} {alone : Bool} (hr : rd.length = wr.length) {a b : Nat} (h : hbk wr rd alone = some (a, b)) : a < wr.length ∧ b < wr.length := by
  unfold hbk at h
  cases hf : hnd rd.reverse 0 wr.reverse with
  | some ab =>
    rw [hf] at h
    cases h
    have := hnd_lt _ 0 _ hf
    simp at this
    omega
  | none =>
    rw [hf] at h
    simp only at h
    split at h
    · exact dup_lt wr _ (Nat.le_refl _) h
    · cases h
theorem at_pl {gd : List Int} {i : Nat} (hi : i < (pl gd).length) : L2.atI ((pl gd).map tI) (i : Int) = some (tI ((pl gd).getD i [])) := at_nat rfl (by simp [hi])
theorem plan_of_ (d : Nat) {gt gtt : Int} {gd gs ss : List Int} (h : Lk gt gd gs) (h' : Lk gtt gd ss) (alone : Bool) (s : Sto) : call Fu.tb (d + 3) .plan_of [lk gt gd gs, lk gtt gd ss, wd alone] s = .ok (.v (planF gd (cs gt gd gs) (cs gtt gd ss) alone).av) s := by
  rw [call_eq rfl rfl]
  have e1 := cells_of_ d h s
  have e2 := cells_of_ d h' s
  rw [cz_cs] at e1 e2
  have l1 := cs_len gt gd gs
  have l2 := cs_len gtt gd ss
  have b1 := pl_512 h.h1 h.h2
  have e3 := hinders_ (d + 1) (cs gt gd gs) (cs gtt gd ss) (by omega) (by omega) s
  have e4 := hinders_back_ d (cs gt gd gs) (cs gtt gd ss) (by omega) (by omega) alone s
  have e5 := places_of_ (d + 1) gd s h.h1 h.h2
  have q := q_wd s alone
  have e6 : subR s (.v (lk gt gd gs)) (.v (.int 1)) = some (.v (tI gd)) := by simp [lk]
  unfold planF
  cases hf : hnd (cs gtt gd ss) 0 (cs gt gd gs) with
  | none =>
    rw [hf] at e3
    simp [Fu.bplan_of, List.replicate, e1, e2, e3, hA, isNon, Pn.av]
  | some ij =>
    obtain ⟨i, j⟩ := ij
    rw [hf] at e3
    have lij := hnd_lt _ 0 _ hf
    cases hb : hbk (cs gt gd gs) (cs gtt gd ss) alone with
    | none =>
      rw [hb] at e4
      simp [Fu.bplan_of, List.replicate, e1, e2, e3, e4, q, hA, isNon, Pn.av]
    | some kl =>
      obtain ⟨k, l⟩ := kl
      rw [hb] at e4
      have lkl := hbk_lt (by omega) hb
      have p1 := at_pl (gd := gd) (i := i) (by omega)
      have p2 := at_pl (gd := gd) (i := j) (by omega)
      have p3 := at_pl (gd := gd) (i := k) (by omega)
      have p4 := at_pl (gd := gd) (i := l) (by omega)
      simp [Fu.bplan_of, List.replicate, e1, e2, e3, e4, e5, e6, q, hA, isNon, Pn.av, p1, p2, p3, p4]
theorem plan_ (d : Nat) {gt gtt : Int} {gd gs sd ss : List Int} (h : Lk gt gd gs) (h' : Lk gtt sd ss) (hm : mayB sd gd = true) (alone : Bool) (s : Sto) : call Fu.tb (d + 5) .plan [lk gt gd gs, lk gtt sd ss, wd alone] s = .ok (.v (planF gd (cs gt gd gs) (cs gtt gd (ovS gd sd ss)) alone).av) s := by
  rw [call_eq rfl rfl]
  have n1 := need_look_ d h s
  have n2 := need_look_ d h' s
  have e1 := laid_ (d + 2) (st := gtt) h'.lb gd hm h.h1 s
  have e2 := plan_of_ (d + 1) h (laid_lk h' hm h.h1 h.h2) alone s
  have e6 : subR s (.v (lk gt gd gs)) (.v (.int 1)) = some (.v (tI gd)) := by simp [lk]
  simp [Fu.bplan, List.replicate, n1, n2, e6, e1, e2]
end LW

set_option maxRecDepth 100000
set_option maxHeartbeats 2000000
namespace LW
open EV PySem PySem.Spec
variable {ns : List Int} {rest : List Ob}
theorem need_ (d : Nat) (s : Sto) : call Fu.tb (d + 1) .need [.bl true] s = .ok (.v .non) s := by
  rw [call_eq rfl rfl]
  simp [Fu.bneed]
theorem through_over_ (d : Nat) {st : Int} {sd sp w : List Int} (h : Lk st sd sp) (hm : mayB sd w = true) (h3 : w.length ≤ 3) (h8 : ∀ x ∈ w, 0 ≤ x ∧ x ≤ 8) (s : Sto) : call Fu.tb (d + 6) .through [lk st sd sp, .tup [.str "over", tI w]] s = .ok (.v (lk st w (ovS w sd sp))) s := by
  have n1 := need_look_ (d + 1) h s
  have e1 := are_sides_ (d + 1) w s h3 h8
  have e2 := may_lie_ (d + 2) sd w s
  rw [hm] at e2
  have e3 := over_ (d + 2) (st := st) h.lb w (may_len hm) h3 s
  have e4 := is_look_ (d + 1) (laid_lk h hm h3 h8) s
  have q1 := (q_o s).1
  have q2 := (q_o s).2.1
  have q3 := (q_o s).2.2.1
  have q4 := (q_o s).2.2.2
  have e6 : subR s (.v (lk st sd sp)) (.v (.int 1)) = some (.v (tI sd)) := by simp [lk]
  have m1 := need_ (d + 3) s
  have m2 := need_ (d + 2) s
  have lb : call Fu.tb (d + 4) .led_by [lk st sd sp, .tup [.str "over", tI w]] s = .ok (.v (lk st w (ovS w sd sp))) s := by
    rw [call_eq rfl rfl]
    simp [Fu.bled_by, List.replicate, q1, q2, q3, q4, e1, e2, e3, e6, m2]
  have ld : call Fu.tb (d + 5) .led [lk st sd sp, .tup [.str "over", tI w]] s = .ok (.v (lk st w (ovS w sd sp))) s := by
    rw [call_eq rfl rfl]
    have g : ggetR [("cut", 5), ("pick", 3), ("turned", 2), ("over", 2), ("shaped", 2)] (.v (.str "over")) (.v (.int 0)) = some (.v (.int 2)) := rfl
    simp [Fu.bled, List.replicate, m1, g, lb, e4]
  rw [call_eq rfl rfl]
  simp [Fu.bthrough, n1, ld]
/-- one look that was led on -/
theorem pair_turns (d : Nat) (e0 : Sl) : ∀ (l : List AV) (s : Sto) (rest : List Ob) (p : Int) (q r : List Int) (e3 e4 e5 e6 e7 : Sl), Dr ns rest s → Lk p q r → ∃ (p' : Int) (q' r' : List Int) (s' : Sto) (rest' : List Ob) (f3 f4 : Sl), forL (loopF (call Fu.tb (d + 8)) (.nm 3) Fu.bLpair_1) l [.v (.loc 0), e0, .v (lk p q r), e3, e4, e5, e6, e7] s = .ok (.nx, [.v (.loc 0), e0, .v (lk p' q' r'), f3, f4, e5, e6, e7]) s' ∧ Dr ns rest' s' ∧ Lk p' q' r'
  | [], s, rest, p, q, r, e3, e4, e5, e6, e7, D, h => ⟨p, q, r, s, rest, e3, e4, rfl, D, h⟩
  | x :: l, s, rest, p, q, r, e3, e4, e5, e6, e7, D, h => by
    obtain ⟨w, s1, rest1, ew, hw, D1⟩ := Lway_ (d + 5) D (st := p) (sd := q) (sp := r) h.h1 h.h2
    obtain ⟨o, et, ho⟩ := Lthrough_ d h w hw s1
    cases o with
    | none =>
      obtain ⟨p', q', r', s', rest', f3, f4, g, D', h'⟩ := pair_turns d e0 l s1 rest1 p q r (.v x) (.v .non) e5 e6 e7 D1 h
      refine ⟨p', q', r', s', rest', f3, f4, ?_, D', h'⟩
      simp only [optA] at et
      rw [forL]
      simp [loopF, Fu.bLpair_1, ew, et]
      exact g
    | some t =>
      obtain ⟨p1, p2, p3⟩ := t
      have h1 := ho p1 p2 p3 rfl
      obtain ⟨p', q', r', s', rest', f3, f4, g, D', h'⟩ := pair_turns d e0 l s1 rest1 p1 p2 p3 (.v x) (.v (lk p1 p2 p3)) e5 e6 e7 D1 h1
      refine ⟨p', q', r', s', rest', f3, f4, ?_, D', h'⟩
      simp only [optA] at et
      have hn : isNon (.v (lk p1 p2 p3)) = false := rfl
      rw [forL]
      simp [loopF, Fu.bLpair_1, ew, et, hn]
      exact g
/-- steps from behind, or turned: a look by its cells -/
theorem minI_mem : ∀ {l : List Int} {m : Int}, minI l = some m → m ∈ l ∧ ∀ x ∈ l, m ≤ x
  | [], m, h => by cases h
  | [x], m, h => by cases h; simp
  | x :: y :: l, m, h => by
    have h : (minI (y :: l)).map (fun m => if m < x then m else x) = some m := h
    obtain ⟨n, hn, rfl⟩ := Option.map_eq_some_iff.mp h
    obtain ⟨a, b⟩ := minI_mem hn
    split
    · rename_i c
      exact ⟨List.mem_cons_of_mem _ a, fun z hz => by
        rcases List.mem_cons.mp hz with rfl | hz
        · omega
        · exact b z hz⟩
    · rename_i c
      exact ⟨List.mem_cons_self .., fun z hz => by
        rcases List.mem_cons.mp hz with rfl | hz
        · omega
        · have := b z hz; omega⟩
theorem maxI_mem : ∀ {l : List Int} {m : Int}, maxI l = some m → m ∈ l ∧ ∀ x ∈ l, x ≤ m
  | [], m, h => by cases h
  | [x], m, h => by cases h; simp
  | x :: y :: l, m, h => by
    have h : (maxI (y :: l)).map (fun m => if x < m then m else x) = some m := h
    obtain ⟨n, hn, rfl⟩ := Option.map_eq_some_iff.mp h
    obtain ⟨a, b⟩ := maxI_mem hn
    split
    · rename_i c
      exact ⟨List.mem_cons_of_mem _ a, fun z hz => by
        rcases List.mem_cons.mp hz with rfl | hz
        · omega
        · exact b z hz⟩
    · rename_i c
      exact ⟨List.mem_cons_self .., fun z hz => by
        rcases List.mem_cons.mp hz with rfl | hz
        · omega
        · have := b z hz; omega⟩
theorem minI_some : ∀ {l : List Int}, l ≠ [] → ∃ m, minI l = some m
  | [], h => absurd rfl h
  | [x], _ => ⟨x, rfl⟩
  | x :: y :: l, _ => by
    obtain ⟨m, hm⟩ := minI_some (l := y :: l) (by simp)
    exact ⟨_, by show (minI (y :: l)).map (fun m => if m < x then m else x) = _; rw [hm]; rfl⟩
theorem maxI_some : ∀ {l : List Int}, l ≠ [] → ∃ m, maxI l = some m
  | [], h => absurd rfl h
  | [x], _ => ⟨x, rfl⟩
  | x :: y :: l, _ => by
    obtain ⟨m, hm⟩ := maxI_some (l := y :: l) (by simp)
    exact ⟨_, by show (maxI (y :: l)).map (fun m => if x < m then m else x) = _; rw [hm]; rfl⟩
end LW

set_option maxRecDepth 100000
set_option maxHeartbeats 2000000
namespace LW
open EV PySem PySem.Spec
variable {ns : List Int} {rest : List Ob}
theorem Lpair_ (d : Nat) {s : Sto} (D : Dr ns rest s) : ∃ (a : Int) (b c : List Int) (a' : Int) (b' c' : List Int) (s' : Sto) (rest' : List Ob), call Fu.tb (d + 9) .Lpair [.loc 0] s = .ok (.v (.tup [lk a b c, lk a' b' c'])) s' ∧ Lk a b c ∧ Lk a' b' c' ∧ Dr ns rest' s' := by
  rw [call_eq rfl rfl]
  obtain ⟨a, b, c, s1, l1, h1, D1⟩ := Llook_ (d + 5) D
  obtain ⟨x, s2, g2, u2, v2, D2⟩ := Ldrawn_ (d + 7) D1 3 (by decide) (by decide)
  have hr := rng_rg (a := 1 + x) (by omega) (by omega)
  obtain ⟨p, q, r, s3, rest3, f3, f4, ef, D3, h3⟩ := pair_turns d (.v (lk a b c)) ((rg (1 + x)).map .int) s2 rest a b c .no .no .no .no .no D2 h1
  have lo := Lover_x (d + 7) h3 b h1.h1 h1.h2 s3
  have e6 : ∀ s, subR s (.v (lk a b c)) (.v (.int 1)) = some (.v (tI b)) := fun s => by simp [lk]
  by_cases hm : mayB q b = true
  · rw [if_pos hm] at lo
    refine ⟨a, b, c, p, q, r, s3, rest3, ?_, h1, h3, D3⟩
    have hn : isNon (.v (lk p b (ovS b q r))) = false := rfl
    simp only [optA] at lo
    simp [Fu.bLpair, List.replicate, l1, g2, hr, ef, e6, lo, hn]
  · rw [if_neg hm] at lo
    simp only [optA] at lo
    obtain ⟨y, s4, g4, u4, v4, D4⟩ := Ldrawn_ (d + 7) D3 8 (by decide) (by decide)
    by_cases hy : 0 < y
    · obtain ⟨k, s5, g5, u5, v5, D5⟩ := Ldrawn_ (d + 7) D4 3 (by decide) (by decide)
      have hcl := h1.h3
      have hcl3 := h1.h1
      have hlc : lcL (lcF (call Fu.tb (d + 8)) [.v (.loc 0), .v (lk a b c), .v (lk p q r), f3, f4, .no, .no, .no] (.nm 7) .none (.bin .sub (.cst (.int 0)) (.var 7))) [] (c.map .int) s4 = .ok ((c.map fun x => -x).map .int) s4 := by
        rw [lcL_map (fun v => match v with | .int x => .int (-x) | v => v) _ s4 _ (by simpa using szle (by omega))]
        · simp [Function.comp_def]
        · intro v hv
          obtain ⟨x, _, rfl⟩ := List.mem_map.mp hv
          simp [lcF]
      have hc : ∃ sp : List Int, L2.atI [lk a b c.reverse, lk a b c, lk a b (c.map fun x => -x)] k = some (lk a b sp) ∧ sp.length = b.length ∧ ∀ x ∈ sp, -512 ≤ x ∧ x ≤ 512 := by
        have : k = 0 ∨ k = 1 ∨ k = 2 := by omega
        rcases this with rfl | rfl | rfl
        · exact ⟨c.reverse, by simp, by simpa using hcl, fun x hx => h1.h4 x (by simpa using hx)⟩
        · exact ⟨c, by simp, hcl, h1.h4⟩
        · refine ⟨c.map fun x => -x, by simp, by simpa using hcl, fun x hx => ?_⟩
          obtain ⟨y, hy, rfl⟩ := List.mem_map.mp hx
          have := h1.h4 y hy
          omega
      obtain ⟨sp, hk, hs1, hs2⟩ := hc
      have lb : Lb b sp := ⟨h1.h1, h1.h2, hs1⟩
      have ec := Lcellsb_ (d + 3) lb (st := a) s5
      have b1 := pl_512 h1.h1 h1.h2
      have hq := q_lints s5 (cs a b sp) [] (by rw [cs_len]; omega) (by simp)
      simp only [List.map_nil] at hq
      simp only [lk, tI, List.map_reverse, List.map_map] at hk
      simp only [lk, tI] at hlc
      by_cases hn : cs a b sp = []
      · refine ⟨a, b, c, a, b, sp, s5, rest3, ?_, h1, lk_of lb hs2 h1.h5 (by rw [hn]; intro c hc; cases hc), D5⟩
        simp only [lk, tI] at l1 ef lo g4 g5 ec e6 ⊢
        simp [Fu.bLpair, List.replicate, l1, g2, hr, ef, lo, isNon, g4, hy, g5, hk, hlc, biR, ec, hq, hn]
      · obtain ⟨mn, hmn⟩ := minI_some hn
        obtain ⟨mx, hmx⟩ := maxI_some hn
        obtain ⟨w1, w2⟩ := minI_mem hmn
        obtain ⟨w3, w4⟩ := maxI_mem hmx
        have o1 : opR1 s5 .minL (.v (.lst ((cs a b sp).map .int))) = some (.v (.int mn)) := by
          show (lstOf s5 (.v (.lst ((cs a b sp).map .int)))).bind (fun l => (intsOf l).bind fun ns => (minI ns).map fun m => R.v (.int m)) = _
          simp [hmn]
        have o2 : opR1 s5 .maxL (.v (.lst ((cs a b sp).map .int))) = some (.v (.int mx)) := by
          show (lstOf s5 (.v (.lst ((cs a b sp).map .int)))).bind (fun l => (intsOf l).bind fun ns => (maxI ns).map fun m => R.v (.int m)) = _
          simp [hmx]
        have hmm := w2 mx w3
        by_cases c1 : 0 ≤ mn
        · by_cases c2 : mx < 512
          · refine ⟨a, b, c, a, b, sp, s5, rest3, ?_, h1, lk_of lb hs2 h1.h5 (fun c hc => by have := w2 c hc; have := w4 c hc; omega), D5⟩
            simp only [lk, tI] at l1 ef lo g4 g5 ec e6 ⊢
            simp [Fu.bLpair, List.replicate, l1, g2, hr, ef, lo, isNon, g4, hy, g5, hk, hlc, biR, ec, hq, hn, o1, o2, c1, c2, hmm]
          · refine ⟨a, b, c, a, b, c, s5, rest3, ?_, h1, h1, D5⟩
            simp only [lk, tI] at l1 ef lo g4 g5 ec e6 ⊢
            simp [Fu.bLpair, List.replicate, l1, g2, hr, ef, lo, isNon, g4, hy, g5, hk, hlc, biR, ec, hq, hn, o1, o2, c1, c2, hmm]
        · refine ⟨a, b, c, a, b, c, s5, rest3, ?_, h1, h1, D5⟩
          simp only [lk, tI] at l1 ef lo g4 g5 ec e6 ⊢
          simp [Fu.bLpair, List.replicate, l1, g2, hr, ef, lo, isNon, g4, hy, g5, hk, hlc, biR, ec, hq, hn, o1, o2, c1]
    · refine ⟨a, b, c, p, q, r, s4, rest3, ?_, h1, h3, D4⟩
      simp [Fu.bLpair, List.replicate, l1, g2, hr, ef, e6, lo, isNon, g4, hy]
end LW

set_option maxRecDepth 100000
set_option maxHeartbeats 2000000
namespace LW
open EV PySem PySem.Spec
/-! ### doing -/
def stC (room : List Int) (add : Bool) (f : List Int) (p : Int × Int) : List Int := f.set p.1.toNat (room.getD p.2.toNat 0 + if add = true then f.getD p.1.toNat 0 else 0)
def stF (add : Bool) (f : List Int) (p : Int × Int) : List Int := f.set p.1.toNat (f.getD p.2.toNat 0 + if add = true then f.getD p.1.toNat 0 else 0)
def stD (room : List Int) (add cp : Bool) (f : List Int) (p : Int × Int) : List Int := if cp = true then stC room add f p else stF add f p
theorem stD_len (room : List Int) (add cp : Bool) (f : List Int) (p : Int × Int) : (stD room add cp f p).length = f.length := by
  unfold stD stC stF
  split <;> simp
theorem getD_ne {f : List Int} {a b : Nat} {v : Int} (h : a ≠ b) : (f.set a v).getD b 0 = f.getD b 0 := by
  simp [List.getElem?_set, h]
/-- in order: no read of what was written ahead -/
theorem forth_eq {room : List Int} {add : Bool} : ∀ (ps : List (Int × Int)) (f : List Int), (∀ p ∈ ps, f.getD p.2.toNat 0 = room.getD p.2.toNat 0) → ps.Pairwise (fun p q => p.1.toNat ≠ q.2.toNat) → ps.foldl (stF add) f = ps.foldl (stC room add) f
  | [], f, _, _ => rfl
  | p :: ps, f, h, hp => by
    rw [List.pairwise_cons] at hp
    have e : stF add f p = stC room add f p := by
      unfold stF stC
      rw [h p (List.mem_cons_self ..)]
    rw [List.foldl_cons, List.foldl_cons, e]
    refine forth_eq ps _ (fun q hq => ?_) hp.2
    unfold stC
    rw [getD_ne (hp.1 q hq)]
    exact h q (List.mem_cons_of_mem _ hq)
theorem comm_foldl {A B : Type} {step : B → A → B} {p : A} : ∀ (ps : List A) (f : B), (∀ q ∈ ps, ∀ f, step (step f q) p = step (step f p) q) → step (ps.foldl step f) p = ps.foldl step (step f p)
  | [], f, _ => rfl
  | q :: ps, f, h => by
    rw [List.foldl_cons, List.foldl_cons, comm_foldl ps _ fun r hr => h r (List.mem_cons_of_mem _ hr), h q (List.mem_cons_self ..)]
theorem rev_foldl {A B : Type} {step : B → A → B} : ∀ (ps : List A) (f : B), ps.Pairwise (fun p q => ∀ f, step (step f q) p = step (step f p) q) → ps.reverse.foldl step f = ps.foldl step f
  | [], f, _ => rfl
  | p :: ps, f, h => by
    rw [List.pairwise_cons] at h
    rw [List.reverse_cons, List.foldl_append, rev_foldl ps f h.2, List.foldl_cons, List.foldl_nil, List.foldl_cons]
    exact comm_foldl ps f h.1
theorem stC_comm {room : List Int} {add : Bool} {p q : Int × Int} (h : add = true ∨ p.1.toNat ≠ q.1.toNat) (f : List Int) : stC room add (stC room add f q) p = stC room add (stC room add f p) q := by
  unfold stC
  by_cases c : p.1.toNat = q.1.toNat
  · have ha : add = true := h.resolve_right fun z => z c
    subst ha
    rw [c]
    simp only [if_true, List.set_set]
    by_cases hl : q.1.toNat < f.length
    · congr 1
      simp [hl]
      omega
    · rw [List.set_eq_of_length_le (by omega), List.set_eq_of_length_le (by omega)]
  · rw [getD_ne c, getD_ne (Ne.symm c), List.set_comm _ _ c]
theorem hnd_none {rd : List Int} : ∀ (i : Nat) (wr : List Int), hnd rd i wr = none → ∀ (a : Nat) (c : Int), wr[a]? = some c → c ∉ rd.drop (i + a + 1)
  | i, [], _, a, c, h => by simp at h
  | i, x :: l, h, a, c, e => by
    have e9 : hnd rd i (x :: l) = match ix x (rd.drop (i + 1)) with
      | some k => some (i, i + 1 + k)
      | none => hnd rd (i + 1) l := rfl
    rw [e9] at h
    by_cases hm : x ∈ rd.drop (i + 1)
    · obtain ⟨k, k1, _⟩ := ix_mem hm
      rw [k1] at h
      cases h
    · rw [ix_none hm] at h
      cases a with
      | zero =>
        simp at e
        subst e
        exact hm
      | succ a =>
        have := hnd_none (i + 1) l h a c (by simpa using e)
        rwa [show i + 1 + a + 1 = i + (a + 1) + 1 by omega] at this
theorem hnd_pw {wr rd : List Int} (h : hnd rd 0 wr = none) (h0 : ∀ x ∈ wr, 0 ≤ x) (h1 : ∀ x ∈ rd, 0 ≤ x) : (wr.zip rd).Pairwise fun p q => p.1.toNat ≠ q.2.toNat := by
  rw [List.pairwise_iff_getElem]
  intro i j hi hj hij e
  rw [List.getElem_zip, List.getElem_zip] at e
  have hi1 : i < wr.length := by simp at hi; omega
  have hj1 : j < rd.length := by simp at hj; omega
  have a1 := h0 wr[i] (List.getElem_mem hi1)
  have a2 := h1 rd[j] (List.getElem_mem hj1)
  have e2 : wr[i] = rd[j] := by simp only at e; omega
  have := hnd_none 0 wr h i wr[i] (by simp [hi1])
  refine this (List.mem_iff_getElem?.mpr ⟨j - (0 + i + 1), ?_⟩)
  rw [List.getElem?_drop, show 0 + i + 1 + (j - (0 + i + 1)) = j by omega, e2]
  simp [hj1]
theorem forth_done {room wr rd : List Int} {add : Bool} (h : hnd rd 0 wr = none) (h0 : ∀ x ∈ wr, 0 ≤ x) (h1 : ∀ x ∈ rd, 0 ≤ x) : (wr.zip rd).foldl (stF add) room = (wr.zip rd).foldl (stC room add) room :=
  forth_eq _ room (fun _ _ => rfl) (hnd_pw h h0 h1)
theorem dup_none {wr : List Int} : ∀ (i : Nat), dup wr i = none → ∀ a, a < i → wr.getD a 0 ∉ wr.drop (a + 1)
  | 0, _, a, h => by omega
  | i + 1, h, a, ha => by
    have e9 : dup wr (i + 1) = match ix (wr.getD i 0) (wr.drop (i + 1)) with
      | some k => some (i + 1 + k, i)
      | none => dup wr i := rfl
    rw [e9] at h
    by_cases hm : wr.getD i 0 ∈ wr.drop (i + 1)
    · obtain ⟨k, k1, _⟩ := ix_mem hm
      rw [k1] at h
      cases h
    · rw [ix_none hm] at h
      by_cases e : a = i
      · subst e; exact hm
      · exact dup_none i h a (by omega)
theorem rev_zip {A B : Type} : ∀ {l : List A} {m : List B}, l.length = m.length → (l.zip m).reverse = l.reverse.zip m.reverse
  | [], [], _ => rfl
  | [], _ :: _, h => by simp at h
  | _ :: _, [], h => by simp at h
  | x :: l, y :: m, h => by
    have ih := rev_zip (l := l) (m := m) (by simpa using h)
    rw [List.zip_cons_cons, List.reverse_cons, List.reverse_cons, List.reverse_cons, ih, List.zip_append (by simpa using h)]
    rfl
theorem back_done {room wr rd : List Int} {alone : Bool} (hl : rd.length = wr.length) (h : hbk wr rd alone = none) (h0 : ∀ x ∈ wr, 0 ≤ x) (h1 : ∀ x ∈ rd, 0 ≤ x) : (wr.zip rd).reverse.foldl (stF (!alone)) room = (wr.zip rd).foldl (stC room (!alone)) room := by
  unfold hbk at h
  cases hf : hnd rd.reverse 0 wr.reverse with
  | some ab => rw [hf] at h; cases h
  | none =>
    rw [hf] at h
    simp only at h
    have e1 : (wr.zip rd).reverse = wr.reverse.zip rd.reverse := by
      exact rev_zip hl.symm
    rw [e1, forth_done hf (fun x hx => h0 x (by simpa using hx)) (fun x hx => h1 x (by simpa using hx)), ← e1]
    refine rev_foldl _ _ ?_
    cases alone with
    | false => exact List.pairwise_of_forall fun p q f => stC_comm (.inl rfl) f
    | true =>
      simp only [if_true] at h
      rw [List.pairwise_iff_getElem]
      intro i j hi hj hij f
      refine stC_comm (.inr fun e => ?_) f
      rw [List.getElem_zip, List.getElem_zip] at e
      have hi1 : i < wr.length := by simp at hi; omega
      have hj1 : j < wr.length := by simp at hj; omega
      have a1 := h0 wr[i] (List.getElem_mem hi1)
      have a2 := h0 wr[j] (List.getElem_mem hj1)
      have e2 : wr[i] = wr[j] := by simp only at e; omega
      have := dup_none wr.length h i hi1
      rw [getD_at hi1] at this
      refine this (List.mem_iff_getElem?.mpr ⟨j - (i + 1), ?_⟩)
      rw [List.getElem?_drop, show i + 1 + (j - (i + 1)) = j by omega, e2]
      simp [hj1]
end LW

set_option maxRecDepth 100000
set_option maxHeartbeats 2000000
namespace LW
open EV PySem PySem.Spec
theorem ixN_in {n : Nat} {i : Int} (h0 : 0 ≤ i) (h1 : i < n) : L2.ixN n i = some i.toNat := by
  unfold L2.ixN
  rw [if_pos h0, if_pos h1]
theorem at_getD {l : List Int} {i : Int} (h0 : 0 ≤ i) (h1 : i < l.length) : L2.atI (l.map AV.int) i = some (.int (l.getD i.toNat 0)) := by
  have hi : i.toNat < l.length := by omega
  exact at_nat (n := i.toNat) (by omega) (by simp [hi])
theorem q_add (s : Sto) (alone : Bool) : eqR s (.v (wd alone)) (.v (.str "add")) = some (!alone) := by
  cases alone
  · exact (q_set s).2.2.1
  · exact (q_set s).2.2.2
theorem Ldone_ (d : Nat) (room : List Int) (ps : List (Int × Int)) (hr : room.length = 512) (hp : ∀ p ∈ ps, 0 ≤ p.1 ∧ p.1 < 512 ∧ 0 ≤ p.2 ∧ p.2 < 512) (alone cp : Bool) (s : Sto) : call Fu.tb (d + 1) .Ldone [.lst (room.map .int), .lst (ps.map fun p => .tup [.int p.1, .int p.2]), wd alone, .bl cp] s = .ok (.tl (.lst ((ps.foldl (stD room (!alone) cp) room).map .int))) s := by
  rw [call_eq rfl rfl]
  obtain ⟨env', s', e, rfl, t, f, e5, e6, e7, q1, q2, q3, q4, rfl⟩ := forL_ind (f := loopF (call Fu.tb d) (.tp [5, 6]) Fu.bLdone_1) (fun l env u => u = s ∧ ∃ (t : List (Int × Int)) (f : List Int) (e5 e6 e7 : Sl), l = t.map (fun p => AV.tup [.int p.1, .int p.2]) ∧ f.length = 512 ∧ (∀ p ∈ t, p ∈ ps) ∧ t.foldl (stD room (!alone) cp) f = ps.foldl (stD room (!alone) cp) room ∧ env = [.v (.lst (room.map .int)), .v (.lst (ps.map fun p => .tup [.int p.1, .int p.2])), .v (wd alone), .v (.bl cp), .own (.lst (f.map .int)), e5, e6, e7]) (by
    rintro x l env s ⟨rfl, t, f, e5, e6, e7, q1, q2, q3, q4, rfl⟩
    cases t with
    | nil => cases q1
    | cons p t =>
      cases q1
      obtain ⟨p1, p2, p3, p4⟩ := hp p (q3 p (List.mem_cons_self ..))
      have a1 := at_getD (l := room) p3 (by omega)
      have a2 := at_getD (l := f) p3 (by omega)
      have a3 := at_getD (l := f) p1 (by omega)
      have x1 : L2.ixN (f.map AV.int).length p.1 = some p.1.toNat := ixN_in p1 (by simp; omega)
      have qa := q_add s alone
      refine ⟨[.v (.lst (room.map .int)), .v (.lst (ps.map fun p => .tup [.int p.1, .int p.2])), .v (wd alone), .v (.bl cp), .own (.lst ((stD room (!alone) cp f p).map .int)), .v (.int p.1), .v (.int p.2), .v (.int (if cp = true then room.getD p.2.toNat 0 else f.getD p.2.toNat 0))], s, ?_, rfl, t, _, _, _, _, rfl, by rw [stD_len, q2], fun r hr => q3 r (List.mem_cons_of_mem _ hr), q4, rfl⟩
      simp only [List.length_map] at x1
      cases cp <;> cases alone
      all_goals
        simp at qa a1 a2 a3
        simp [loopF, Fu.bLdone_1, setT, EV.rd, a1, a2, a3, x1, qa, stD, stC, stF, List.map_set]) (ps.map fun p => AV.tup [.int p.1, .int p.2]) [.v (.lst (room.map .int)), .v (.lst (ps.map fun p => .tup [.int p.1, .int p.2])), .v (wd alone), .v (.bl cp), .own (.lst (room.map .int)), .no, .no, .no] s ⟨rfl, ps, room, .no, .no, .no, rfl, hr, fun _ h => h, rfl, rfl⟩
  have ht : t = [] := by cases t with | nil => rfl | cons _ _ => cases q1
  subst ht
  rw [List.foldl_nil] at q4
  rw [← q4]
  simp [Fu.bLdone, List.replicate, biR, e]
/-- len(set(x)) tells whether all are one each -/
theorem fm_mem (val : Nat → Int) : ∀ n : Nat, ∀ x, x ∈ PyProof.Rows.firstMet val n ↔ ∃ i, i < n ∧ val i = x
  | 0, x => by simp [PyProof.Rows.firstMet_zero]
  | n + 1, x => by
    have ih := fm_mem val n
    rw [PyProof.Rows.firstMet_succ]
    unfold PyProof.Rows.step_dedup
    split
    · rename_i c
      rw [ih]
      constructor
      · rintro ⟨i, h1, h2⟩; exact ⟨i, by omega, h2⟩
      · rintro ⟨i, h1, h2⟩
        by_cases e : i = n
        · subst e
          subst h2
          have : val i ∈ PyProof.Rows.firstMet val i := by simpa using c
          exact (ih _).mp this
        · exact ⟨i, by omega, h2⟩
    · rw [List.mem_append, ih]
      constructor
      · rintro (⟨i, h1, h2⟩ | h)
        · exact ⟨i, by omega, h2⟩
        · exact ⟨n, by omega, (List.mem_singleton.mp h).symm⟩
      · rintro ⟨i, h1, h2⟩
        by_cases e : i = n
        · subst e; exact .inr (by simp [h2])
        · exact .inl ⟨i, by omega, h2⟩
theorem fm_full (val : Nat → Int) : ∀ n : Nat, (PyProof.Rows.firstMet val n).length = n → ∀ i j, i < j → j < n → val i ≠ val j
  | 0, _, i, j, _, h => by omega
  | n + 1, h, i, j, hij, hj => by
    have hle := PyProof.Rows.firstMet_length_le val n
    rw [PyProof.Rows.firstMet_succ] at h
    unfold PyProof.Rows.step_dedup at h
    split at h
    · omega
    · rename_i c
      simp at h
      by_cases e : j = n
      · subst e
        intro q
        apply c
        have : val j ∈ PyProof.Rows.firstMet val j := (fm_mem val j _).mpr ⟨i, hij, q⟩
        simpa using this
      · exact fm_full val n h i j hij (by omega)
theorem setN_nodup {l : List Int} (h : setN l = l.length) : ∀ i j, i < j → j < l.length → l.getD i 0 ≠ l.getD j 0 := fm_full _ _ h
end LW

set_option maxRecDepth 100000
set_option maxHeartbeats 2000000
namespace LW
open EV PySem PySem.Spec
variable {ns : List Int} {rest : List Ob}
theorem hnd_no {rd : List Int} : ∀ (i : Nat) (wr : List Int), (∀ a c, wr[a]? = some c → c ∉ rd.drop (i + a + 1)) → hnd rd i wr = none
  | i, [], _ => rfl
  | i, x :: l, h => by
    have e9 : hnd rd i (x :: l) = match ix x (rd.drop (i + 1)) with
      | some k => some (i, i + 1 + k)
      | none => hnd rd (i + 1) l := rfl
    rw [e9, ix_none (h 0 x rfl)]
    exact hnd_no (i + 1) l fun a c e => by
      have := h (a + 1) c (by simpa using e)
      rwa [show i + (a + 1) + 1 = i + 1 + a + 1 by omega] at this
theorem may_self (sd : List Int) : mayB sd sd = true := (may_at (m := 0) (by omega)).mpr fun i hi => .inl (by rw [Nat.zero_add])
theorem ovS_self {sd sp : List Int} (h : sp.length = sd.length) : ovS sd sd sp = sp := by
  unfold ovS
  rw [Nat.sub_self]
  refine List.ext_getElem (by simp [h]) fun i h1 h2 => ?_
  simp [ovT, h2]
/-- the cells of what is laid are cells of the look -/
theorem laid_cell {st : Int} {sd sp w : List Int} (h : Lb sd sp) (hm : mayB sd w = true) (h8 : ∀ x ∈ w, 0 ≤ x ∧ x ≤ 8) {c : Int} (hc : c ∈ cs st w (ovS w sd sp)) : c ∈ cs st sd sp := by
  obtain ⟨p, hp, rfl⟩ := List.mem_map.mp hc
  have hl := may_len hm
  obtain ⟨p1, p2⟩ := pl_lt hp
  have hM : w.length = (w.length - sd.length) + sd.length := by omega
  generalize hk : w.length - sd.length = m at *
  have hat := (may_at hM).mp hm
  refine List.mem_map.mpr ⟨(List.range sd.length).map fun i => if sd.getD i 0 = w.getD (m + i) 0 then p.getD (m + i) 0 else 0, pl_in (by simp) fun i q1 q2 => ?_, ?_⟩
  · have hi2 : m + i < w.length := by omega
    have hi3 : m + i < p.length := by omega
    have := p2 (m + i) p[m + i] w[m + i] (by simp) (by simp)
    have ha := hat i q2
    simp [q2, hi2, hi3] at ha ⊢
    split
    · omega
    · omega
  · congr 1
    unfold ovS
    rw [hk]
    rw [show p = p.take m ++ p.drop m by simp, zs_append (· * ·) (by simp; omega), zs_zero (· * ·) (by simp), Int.zero_add]
    refine zs_congr (· * ·) (by simp; omega) (by simp [h.h3]) fun i q1 q2 q3 q4 => ?_
    have q1' : i < sd.length := by simpa using q1
    have hi3 : m + i < p.length := by omega
    have hi2 : m + i < w.length := by omega
    simp only [List.getElem_map, List.getElem_range, List.getElem_drop, ovT, List.take_append_drop]
    simp [q1', q2, hi2, hi3]
    by_cases c : sd[i] = w[m + i]
    · simp [c]
    · simp [c]
theorem mt_none {f g : List Int → Int} {m l : List (List Int)} (h : mtF f g m l = none) : ∀ p ∈ l, ∀ q ∈ m, g q ≠ f p := by
  intro p hp q hq e
  unfold mtF at h
  have := List.findSome?_eq_none_iff.mp h p hp
  rw [Option.map_eq_none_iff] at this
  have := List.find?_eq_none.mp this q hq
  simp [e] at this
/-- the answers as data -/
theorem q_pn (s : Sto) (p : Pn) : eqR s (.v p.av) (.v (.tup [.str "forth"])) = some (match p with | .forth => true | _ => false) ∧ eqR s (.v p.av) (.v (.tup [.str "back"])) = some (match p with | .back => true | _ => false) := by
  have o1 : PyData.strOk "forth" = true := by unfold PyData.strOk; rw [← Array.all_toList]; rfl
  have o2 : PyData.strOk "back" = true := by unfold PyData.strOk; rw [← Array.all_toList]; rfl
  have o3 : PyData.strOk "copy" = true := by unfold PyData.strOk; rw [← Array.all_toList]; rfl
  have s1 : SeqAt.shaped (.tuple [.str "forth"]) = true := by simp [SeqAt.shaped, PyData.canLay0, PyData.canLayAll0, PyData.depth, PyData.depthAll, o1]
  have s2 : SeqAt.shaped (.tuple [.str "back"]) = true := by simp [SeqAt.shaped, PyData.canLay0, PyData.canLayAll0, PyData.depth, PyData.depthAll, o2]
  have d1 : dat s (.v (.tup [.str "forth"])) = some (.tuple [.str "forth"]) := rfl
  have d2 : dat s (.v (.tup [.str "back"])) = some (.tuple [.str "back"]) := rfl
  cases p with
  | forth =>
    have e0 : dat s (.v Pn.forth.av) = some (.tuple [.str "forth"]) := rfl
    unfold eqR
    rw [e0, d1, d2]
    simp only [s1, s2, Bool.and_self, if_true]
    exact ⟨rfl, rfl⟩
  | back =>
    have e0 : dat s (.v Pn.back.av) = some (.tuple [.str "back"]) := rfl
    unfold eqR
    rw [e0, d1, d2]
    simp only [s1, s2, Bool.and_self, if_true]
    exact ⟨rfl, rfl⟩
  | copy a b c d =>
    have e0 : dat s (.v (Pn.copy a b c d).av) = some (.tuple [.str "copy", .tuple [tD a, tD b], .tuple [tD c, tD d]]) := by
      have t1 := dat_tI s a
      have t2 := dat_tI s b
      have t3 := dat_tI s c
      have t4 := dat_tI s d
      have t1 : toD (locD s 4) (tI a) = some (tD a) := t1
      have t2 : toD (locD s 4) (tI b) = some (tD b) := t2
      have t3 : toD (locD s 4) (tI c) = some (tD c) := t3
      have t4 : toD (locD s 4) (tI d) = some (tD d) := t4
      show toD (locD s 4) (.tup [.str "copy", .tup [tI a, tI b], .tup [tI c, tI d]]) = _
      simp [toD, toDs, t1, t2, t3, t4]
    have hd : ∀ l : List Int, (tD l).depth ≤ 2 := fun l => by
      have := depth_ints l
      simp [tD, PyData.depth]
      omega
    have s3 : SeqAt.shaped (.tuple [.str "copy", .tuple [tD a, tD b], .tuple [tD c, tD d]]) = true := by
      have h1 := hd a
      have h2 := hd b
      have h3 := hd c
      have h4 := hd d
      simp only [tD] at h1 h2 h3 h4
      simp [SeqAt.shaped, PyData.canLay0, PyData.canLayAll0, tD, canLay_ints, o3, PyData.depth, PyData.depthAll] at h1 h2 h3 h4 ⊢
      omega
    unfold eqR
    rw [e0, d1, d2]
    simp only [s1, s2, s3, Bool.and_self, if_true]
    refine ⟨?_, ?_⟩ <;> simp [PyData.eqv, PyData.eqvAll]
theorem in_pn (s : Sto) (p : Pn) : (subR s (.v p.av) (.v (.int 0))).bind (fun x => inR s x (.v (.tup [.str "forth", .str "back", .str "copy"]))) = some true := by
  cases p <;> rfl
end LW

set_option maxRecDepth 100000
set_option maxHeartbeats 2000000
namespace LW
open EV PySem PySem.Spec
variable {ns : List Int} {rest : List Ob}
theorem room_draws (d : Nat) {s : Sto} (D : Dr ns rest s) (e0 e2 e3 e4 e5 e6 e7 e8 e9 e10 : Sl) : ∃ (room : List Int) (s' : Sto), lcL (lcF (call Fu.tb (d + 1)) [e0, .v (.loc 0), e2, e3, e4, e5, e6, e7, e8, e9, e10, .no] (.nm 11) .none (.call .Ldrawn (.cons (.var 1) (.cons (.cst (.int 99)) .nil)))) [] ((rg 512).map .int) s = .ok (room.map .int) s' ∧ room.length = 512 ∧ Dr ns rest s' := by
  obtain ⟨out, s', e, o, h1, h2, D'⟩ := lcL_ind (f := lcF (call Fu.tb (d + 1)) [e0, .v (.loc 0), e2, e3, e4, e5, e6, e7, e8, e9, e10, .no] (.nm 11) .none (.call .Ldrawn (.cons (.var 1) (.cons (.cst (.int 99)) .nil)))) (fun l acc s => ∃ o : List Int, acc = o.map .int ∧ o.length + l.length = 512 ∧ Dr ns rest s) (by
    rintro x l acc s ⟨o, rfl, h2, D⟩
    obtain ⟨y, s1, g, u, v, D1⟩ := Ldrawn_ d D 99 (by decide) (by decide)
    refine ⟨.int y, s1, ?_, by simp at h2 ⊢; exact szlt (by omega), o ++ [y], by simp, by simp at h2 ⊢; omega, D1⟩
    simp [lcF, g]) ((rg 512).map .int) [] s ⟨[], rfl, by rw [List.length_map, rg_len]; rfl, D⟩
  subst h1
  exact ⟨o, s', e, by simpa using h2, D'⟩
theorem zipA (wr rd : List Int) : ((wr.map AV.int).zip (rd.map AV.int)).map (fun p => AV.tup [p.1, p.2]) = (wr.zip rd).map fun p => AV.tup [.int p.1, .int p.2] := by
  rw [List.zip_map, List.map_map]
  rfl
theorem word_turn {s : Sto} {a a' : Int} {b c b' c' : List Int} (h : Lk a b c) (h' : Lk a' b' c') (hm : mayB b' b = true) {room : List Int} (hr : room.length = 512) (alone : Bool) (e0 e1 e2 e5 e8 e9 e10 e11 : Sl) :
    ∃ f9 f10, loopF (call Fu.tb 23) (.nm 8) Fu.bLAW09_1 [e0, e1, e2, .v (lk a b c), .v (lk a' b' c'), e5, .v (.lst (((cs a b c).zip (cs a' b (ovS b b' c'))).map fun p => .tup [.int p.1, .int p.2])), .v (.lst (room.map .int)), e8, e9, e10, e11] (wd alone) s = .ok (.nx, [e0, e1, e2, .v (lk a b c), .v (lk a' b' c'), e5, .v (.lst (((cs a b c).zip (cs a' b (ovS b b' c'))).map fun p => .tup [.int p.1, .int p.2])), .v (.lst (room.map .int)), .v (wd alone), f9, f10, e11]) s := by
  have e1' := plan_ 18 h h' hm alone s
  have hlk := laid_lk h' hm h.h1 h.h2
  have c1 := h.cell
  have c2 := hlk.cell
  have m1 := meets_ 18 h h' s
  generalize hwr : cs a b c = wr at *
  generalize hrd : cs a' b (ovS b b' c') = rd at *
  have hlen : rd.length = wr.length := by rw [← hwr, ← hrd, cs_len, cs_len]
  have hps : ∀ p ∈ wr.zip rd, 0 ≤ p.1 ∧ p.1 < 512 ∧ 0 ≤ p.2 ∧ p.2 < 512 := fun p hp => by
    obtain ⟨z1, z2⟩ := List.of_mem_zip hp
    have := c1 _ z1
    have := c2 _ z2
    omega
  have g1 := Ldone_ 22 room (wr.zip rd) hr hps alone true s
  have g2 := Ldone_ 22 room (wr.zip rd) hr hps alone false s
  have g3 := Ldone_ 22 room (wr.zip rd).reverse hr (fun p hp => hps p (by simpa using hp)) alone false s
  have w0 : ∀ x ∈ wr, 0 ≤ x := fun x hx => (c1 x hx).1
  have r0 : ∀ x ∈ rd, 0 ≤ x := fun x hx => (c2 x hx).1
  have fl : ∀ (ps : List (Int × Int)) (cp : Bool) (f : List Int), f.length = 512 → (ps.foldl (stD room (!alone) cp) f).length = 512 := by
    intro ps cp
    induction ps with
    | nil => exact fun f hf => hf
    | cons p ps ih => exact fun f hf => ih _ (by rw [stD_len, hf])
  have eC : ∀ ps : List (Int × Int), ps.foldl (stD room (!alone) true) room = ps.foldl (stC room (!alone)) room := fun ps => rfl
  have eF : ∀ ps : List (Int × Int), ps.foldl (stD room (!alone) false) room = ps.foldl (stF (!alone)) room := fun ps => rfl
  have q1 := q_lints s ((wr.zip rd).foldl (stD room (!alone) false) room) ((wr.zip rd).foldl (stD room (!alone) true) room) (by rw [fl _ _ _ hr]; omega) (by rw [fl _ _ _ hr]; omega)
  have q2 := q_lints s ((wr.zip rd).reverse.foldl (stD room (!alone) false) room) ((wr.zip rd).foldl (stD room (!alone) true) room) (by rw [fl _ _ _ hr]; omega) (by rw [fl _ _ _ hr]; omega)
  have qp := q_pn s (planF b wr rd alone)
  obtain ⟨qf, qb⟩ := qp
  have hmt : isNon (.v (mA (mtF (fun p => a + zs (· * ·) p c) (fun p => a' + zs (· * ·) p c') (pl b') (pl b)))) = true → hnd rd 0 wr = none := by
    intro hn
    cases hmf : mtF (fun p => a + zs (· * ·) p c) (fun p => a' + zs (· * ·) p c') (pl b') (pl b) with
    | some pq => rw [hmf] at hn; cases hn
    | none =>
      refine hnd_no 0 wr fun i x hx hm2 => ?_
      have hx1 : x ∈ wr := List.mem_of_getElem? hx
      have hx2 : x ∈ rd := List.mem_of_mem_drop hm2
      rw [← hwr] at hx1
      rw [← hrd] at hx2
      have hx3 := laid_cell h'.lb hm h.h2 hx2
      obtain ⟨p, hp, ep⟩ := List.mem_map.mp hx1
      obtain ⟨q, hq, eq⟩ := List.mem_map.mp hx3
      exact mt_none hmf p hp q hq (by rw [eq, ← ep])
  simp only [List.map_reverse] at g3
  generalize hmm : mA (mtF (fun p => a + zs (· * ·) p c) (fun p => a' + zs (· * ·) p c') (pl b') (pl b)) = mm at *
  refine ⟨.v (planF b wr rd alone).av, .v (.lst (((wr.zip rd).foldl (stD room (!alone) true) room).map .int)), ?_⟩
  have hF : hnd rd 0 wr = none → (wr.zip rd).foldl (stD room (!alone) false) room = (wr.zip rd).foldl (stD room (!alone) true) room := fun z => by rw [eC, eF]; exact forth_done z w0 r0
  have hB : hbk wr rd alone = none → (wr.zip rd).reverse.foldl (stD room (!alone) false) room = (wr.zip rd).foldl (stD room (!alone) true) room := fun z => by rw [eC, eF]; exact back_done hlen z w0 r0
  cases hf : hnd rd 0 wr with
  | none =>
    have hp : planF b wr rd alone = .forth := by unfold planF; rw [hf]
    rw [hp] at e1' qf qb ⊢
    have q1 : eqR s (.v (.lst (((wr.zip rd).foldl (stD room (!alone) false) room).map .int))) (.v (.lst (((wr.zip rd).foldl (stD room (!alone) true) room).map .int))) = some true := by rw [q1]; simp [hF hf]
    cases hn : isNon (.v mm) <;> simp [loopF, Fu.bLAW09_1, e1', g1, g2, qf, qb, q1, m1, hn]
  | some ij =>
    have hn : isNon (.v mm) = false := by
      cases hn : isNon (.v mm) with
      | false => rfl
      | true => rw [hmt hn] at hf; cases hf
    cases hb : hbk wr rd alone with
    | none =>
      have hp : planF b wr rd alone = .back := by unfold planF; rw [hf]; simp only [hb]
      rw [hp] at e1' qf qb ⊢
      have q2 : eqR s (.v (.lst (((wr.zip rd).reverse.foldl (stD room (!alone) false) room).map .int))) (.v (.lst (((wr.zip rd).foldl (stD room (!alone) true) room).map .int))) = some true := by rw [q2]; simp [hB hb]
      simp only [List.foldl_reverse] at q2 g3
      simp [loopF, Fu.bLAW09_1, e1', g1, g3, qf, qb, q2, m1, hn]
    | some kl =>
      have hp : ∃ x y z w, planF b wr rd alone = .copy x y z w := by
        unfold planF
        rw [hf]
        simp only [hb]
        exact ⟨_, _, _, _, rfl⟩
      obtain ⟨x, y, z, w, hp⟩ := hp
      rw [hp] at e1' qf qb ⊢
      simp [loopF, Fu.bLAW09_1, e1', g1, qf, qb, m1, hn]
theorem self_plan {a : Int} {b c : List Int} (h : Lk a b c) (alone : Bool) (s : Sto) : call Fu.tb 23 .plan [lk a b c, lk a b c, wd alone] s = .ok (.v (planF b (cs a b c) (cs a b c) alone).av) s := by
  have := plan_ 18 h h (may_self b) alone s
  rwa [ovS_self h.h3] at this
theorem self_forth {l : List Int} (h : setN l = l.length) (b : List Int) (alone : Bool) : planF b l l alone = .forth := by
  have hd := setN_nodup h
  have : hnd l 0 l = none := hnd_no 0 l fun i x hx hm => by
    obtain ⟨k, hk⟩ := List.mem_iff_getElem?.mp hm
    rw [List.getElem?_drop] at hk
    have hl := (List.getElem?_eq_some_iff.mp hk).1
    have h2 := hd i (0 + i + 1 + k) (by omega) hl
    rw [List.getD_eq_getElem?_getD, List.getD_eq_getElem?_getD, hx, hk] at h2
    exact h2 rfl
  unfold planF
  rw [this]
/-- the last two askings -/
theorem tail_turn {s : Sto} {a : Int} {b c : List Int} (h : Lk a b c) (e0 e1 e2 e4 e5 e6 e7 e8 e9 e10 e11 : Sl) :
    exs (call Fu.tb 23) [e0, e1, e2, .v (lk a b c), e4, e5, e6, e7, e8, e9, e10, e11] (.cons (.ife (.cmp .notin (.sub (.call .plan (.cons (.var 3) (.cons (.var 3) (.cons (.cst (.str "add")) .nil)))) (.cst (.int 0))) (.tup (.cons (.cst (.str "forth")) (.cons (.cst (.str "back")) (.cons (.cst (.str "copy")) .nil))))) (.cons (.ret (.cst (.bl false))) .nil) .nil) (.cons (.ife (.and (.cons (.cmp .eq (.op1 .lset (.call .cells (.cons (.var 3) .nil))) (.bi .len (.cons (.call .cells (.cons (.var 3) .nil)) .nil))) (.cons (.cmp .ne (.call .plan (.cons (.var 3) (.cons (.var 3) (.cons (.cst (.str "set")) .nil)))) (.tup (.cons (.cst (.str "forth")) .nil))) .nil))) (.cons (.ret (.cst (.bl false))) .nil) .nil) .nil)) s = .ok (.nx, [e0, e1, e2, .v (lk a b c), e4, e5, e6, e7, e8, e9, e10, e11]) s := by
  have p1 : call Fu.tb 23 .plan [lk a b c, lk a b c, .str "add"] s = _ := self_plan h false s
  have p2 : call Fu.tb 23 .plan [lk a b c, lk a b c, .str "set"] s = _ := self_plan h true s
  have ec := cells_ 18 h s
  rw [cz_cs] at ec
  have hi := in_pn s (planF b (cs a b c) (cs a b c) false)
  obtain ⟨x, hx, hi⟩ := Option.bind_eq_some_iff.mp hi
  have hxf : fz x = x := by
    cases hpn : planF b (cs a b c) (cs a b c) false <;> rw [hpn] at hx <;> cases hx <;> rfl
  have hl := cs_len a b c
  have b1 := pl_512 h.h1 h.h2
  have hs : opR1 s .lset (.v (.lst ((cs a b c).map .int))) = some (.v (.int (setN (cs a b c) : Nat))) := by
    show (lstOf s (.v (.lst ((cs a b c).map .int)))).bind (fun l => (intsOf l).bind fun ns => if decide (ns.length ≤ 4000) then some (R.v (.int (setN ns : Nat))) else none) = _
    have : (cs a b c).length ≤ 4000 := by omega
    simp [this]
  have qf := (q_pn s (planF b (cs a b c) (cs a b c) true)).1
  by_cases he : setN (cs a b c) = (cs a b c).length
  · have hp := self_forth he b true
    rw [hp] at p2 qf
    simp [p1, hx, hxf, c_ni, hi, ec, hs, he, p2, qf]
  · have he' : ¬ ((setN (cs a b c) : Nat) : Int) = ((cs a b c).length : Nat) := by omega
    simp [p1, hx, hxf, c_ni, hi, ec, hs, he', he]
theorem plain (ns : List Int) : ∃ s, call Fu.tb 24 .LAW09 [.scr ns] ⟨0, []⟩ = .ok (.v (.bl true)) s := by
  rw [call_eq rfl rfl]
  obtain ⟨m, hst⟩ := start_ (tb := Fu.tb) (f := .Lstart) rfl 22 ns ⟨0, []⟩
  obtain ⟨env', s', e, _, _, _, _, _, _, _, _, _, _, _, _⟩ := forL_ind (f := loopF (call Fu.tb 23) (.nm 2) Fu.bLAW09_2) (fun l env u => (∃ rest, Dr ns rest u) ∧ ∃ (e2 e3 e4 e5 e6 e7 e8 e9 e10 e11 : Sl), env = [.v (.scr ns), .v (.loc 0), e2, e3, e4, e5, e6, e7, e8, e9, e10, .no]) (by
    rintro x l env s ⟨⟨rest, D⟩, e2, e3, e4, e5, e6, e7, e8, e9, e10, e11, rfl⟩
    obtain ⟨a, b, c, a', b', c', s1, rest1, l1, h1, h2, D1⟩ := Lpair_ 14 D
    have lo := Lover_x 22 h2 b h1.h1 h1.h2 s1
    have e6' : subR s1 (.v (lk a b c)) (.v (.int 1)) = some (.v (tI b)) := by simp [lk]
    by_cases hm : mayB b' b = true
    · rw [if_pos hm] at lo
      simp only [optA] at lo
      have hn : isNon (.v (lk a' b (ovS b b' c'))) = false := rfl
      have th := through_over_ 17 h2 hm h1.h1 h1.h2 s1
      have k1 := cells_ 18 h1 s1
      have k2 := cells_ 18 (laid_lk h2 hm h1.h1 h1.h2) s1
      rw [cz_cs] at k1 k2
      have hz : opR2 s1 .lzip (.v (.lst ((cs a b c).map .int))) (.v (.lst ((cs a' b (ovS b b' c')).map .int))) = some (.tl (.lst (((cs a b c).zip (cs a' b (ovS b b' c'))).map fun p => .tup [.int p.1, .int p.2]))) := by
        rw [← zipA]; rfl
      have o2 : op2L s1 .lzip (.v (.lst ((cs a b c).map .int))) = true := rfl
      obtain ⟨room, s2, rd2, hr, D2⟩ := room_draws 22 D1 (.v (.scr ns)) (.v x) (.v (lk a b c)) (.v (lk a' b' c')) (.v (lk a' b (ovS b b' c'))) (.v (.lst (((cs a b c).zip (cs a' b (ovS b b' c'))).map fun p => .tup [.int p.1, .int p.2]))) e7 e8 e9 e10
      have hr5 := rng_rg (a := 512) (by decide) (by decide)
      obtain ⟨f9, f10, t1⟩ := word_turn (s := s2) h1 h2 hm hr true (.v (.scr ns)) (.v (.loc 0)) (.v x) (.v (lk a' b (ovS b b' c'))) e8 e9 e10 .no
      obtain ⟨f11, f12, t2⟩ := word_turn (s := s2) h1 h2 hm hr false (.v (.scr ns)) (.v (.loc 0)) (.v x) (.v (lk a' b (ovS b b' c'))) (.v (wd true)) f9 f10 .no
      have tt := tail_turn (s := s2) h1 (.v (.scr ns)) (.v (.loc 0)) (.v x) (.v (lk a' b' c')) (.v (lk a' b (ovS b b' c'))) (.v (.lst (((cs a b c).zip (cs a' b (ovS b b' c'))).map fun p => .tup [.int p.1, .int p.2]))) (.v (.lst (room.map .int))) (.v (wd false)) f11 f12 .no
      refine ⟨[.v (.scr ns), .v (.loc 0), .v x, .v (lk a b c), .v (lk a' b' c'), .v (lk a' b (ovS b b' c')), .v (.lst (((cs a b c).zip (cs a' b (ovS b b' c'))).map fun p => .tup [.int p.1, .int p.2])), .v (.lst (room.map .int)), .v (wd false), f11, f12, .no], s2, ?_, ⟨rest1, D2⟩, _, _, _, _, _, _, _, _, _, .no, rfl⟩
      have hfor : forL (loopF (call Fu.tb 23) (.nm 8) Fu.bLAW09_1) [.str "set", .str "add"] [.v (.scr ns), .v (.loc 0), .v x, .v (lk a b c), .v (lk a' b' c'), .v (lk a' b (ovS b b' c')), .v (.lst (((cs a b c).zip (cs a' b (ovS b b' c'))).map fun p => .tup [.int p.1, .int p.2])), .v (.lst (room.map .int)), e8, e9, e10, .no] s2 = .ok (.nx, [.v (.scr ns), .v (.loc 0), .v x, .v (lk a b c), .v (lk a' b' c'), .v (lk a' b (ovS b b' c')), .v (.lst (((cs a b c).zip (cs a' b (ovS b b' c'))).map fun p => .tup [.int p.1, .int p.2])), .v (.lst (room.map .int)), .v (wd false), f11, f12, .no]) s2 := by
        rw [forL, show (AV.str "set") = wd true from rfl, t1]
        simp only [Rs.bind_ok]
        rw [forL, show (AV.str "add") = wd false from rfl, t2]
        simp only [Rs.bind_ok]
        rw [forL]
      unfold loopF Fu.bLAW09_2
      rw [setT_nm, Rs.of_some, Rs.bind_ok]
      rw [xs_cons, show ex (call Fu.tb 23) _ (.unp [3, 4] (.call .Lpair (.cons (.var 1) .nil))) s = .ok (.nx, [.v (.scr ns), .v (.loc 0), .v x, .v (lk a b c), .v (lk a' b' c'), e5, e6, e7, e8, e9, e10, .no]) s1 from by simp [l1]]
      simp only [Rs.bind_ok]
      rw [xs_cons, show ex (call Fu.tb 23) _ _ s1 = .ok (.nx, [.v (.scr ns), .v (.loc 0), .v x, .v (lk a b c), .v (lk a' b' c'), .v (lk a' b (ovS b b' c')), .v (.lst (((cs a b c).zip (cs a' b (ovS b b' c'))).map fun p => .tup [.int p.1, .int p.2])), .v (.lst (room.map .int)), .v (wd false), f11, f12, .no]) s2 from by
        simp [e6', lo, c_notn, hn, th, k1, k2, hz, o2, hr5, rd2, hfor]]
      simp only [Rs.bind_ok]
      exact tt
    · rw [if_neg hm] at lo
      simp only [optA] at lo
      have tt := tail_turn (s := s1) h1 (.v (.scr ns)) (.v (.loc 0)) (.v x) (.v (lk a' b' c')) e5 e6 e7 e8 e9 e10 .no
      refine ⟨[.v (.scr ns), .v (.loc 0), .v x, .v (lk a b c), .v (lk a' b' c'), e5, e6, e7, e8, e9, e10, .no], s1, ?_, ⟨rest1, D1⟩, _, _, _, _, _, _, _, _, _, .no, rfl⟩
      unfold loopF Fu.bLAW09_2
      rw [setT_nm, Rs.of_some, Rs.bind_ok]
      rw [xs_cons, show ex (call Fu.tb 23) _ (.unp [3, 4] (.call .Lpair (.cons (.var 1) .nil))) s = .ok (.nx, [.v (.scr ns), .v (.loc 0), .v x, .v (lk a b c), .v (lk a' b' c'), e5, e6, e7, e8, e9, e10, .no]) s1 from by simp [l1]]
      simp only [Rs.bind_ok]
      rw [xs_cons, show ex (call Fu.tb 23) _ _ s1 = .ok (.nx, [.v (.scr ns), .v (.loc 0), .v x, .v (lk a b c), .v (lk a' b' c'), e5, e6, e7, e8, e9, e10, .no]) s1 from by
        simp [e6', lo, c_notn, isNon]]
      simp only [Rs.bind_ok]
      exact tt) (rngL 0 8) [.v (.scr ns), .v (.loc 0), .no, .no, .no, .no, .no, .no, .no, .no, .no, .no] ⟨0, [.ct (.lst [.scr ns, .int 0, .int m, .int 0])]⟩ ⟨⟨[], 0, m, 0, by omega, rfl⟩, _, _, _, _, _, _, _, _, _, .no, rfl⟩
  have hr : rngR 1 [.v (.int 8)] = some (rngL 0 8) := rfl
  refine ⟨s', ?_⟩
  simp [Fu.bLAW09, List.replicate, hst, hr, e]
end LW

set_option maxRecDepth 100000
set_option maxHeartbeats 0
namespace LW
open PySem PySem.Spec PyProof.Rows L2
def topS (i : Nat) : Stmt := PySem.Challenge.pw_viewsheets_k09_whole_orders_do_as_copies.main.body.getD i (.Pass ⟨0, 0, 0, 0⟩)
def Fu.nm : Fu → Option Str
  | .is_number => some "is_number"
  | .are_sides => some "are_sides"
  | .many_of => some "many_of"
  | .is_look => some "is_look"
  | .need_look => some "need_look"
  | .least_of => some "least_of"
  | .greatest_of => some "greatest_of"
  | .places_of => some "places_of"
  | .cell_of => some "cell_of"
  | .cells_of => some "cells_of"
  | .cells => some "cells"
  | .need => some "need"
  | .cut => some "cut"
  | .pick => some "pick"
  | .turned => some "turned"
  | .may_lie => some "may_lie"
  | .over => some "over"
  | .shaped => some "shaped"
  | .led => some "led"
  | .led_by => some "led_by"
  | .through => some "through"
  | .laid => some "laid"
  | .first_places => some "first_places"
  | .meets => some "meets"
  | .hinders => some "hinders"
  | .hinders_back => some "hinders_back"
  | .plan_of => some "plan_of"
  | .plan => some "plan"
  | .Lstart => some "_law_start"
  | .Ldrawn => some "_law_drawn"
  | .Lsides => some "_law_sides"
  | .Llook => some "_law_look"
  | .Lplaces => some "_law_places"
  | .Lcell => some "_law_cell"
  | .Lcells => some "_law_cells"
  | .Lway => some "_law_way"
  | .Lother_sides => some "_law_other_sides"
  | .Lthrough => some "_law_through"
  | .Lled => some "_law_led"
  | .Lover => some "_law_over"
  | .Lshaped => some "_law_shaped"
  | .Lpair => some "_law_pair"
  | .Ldone => some "_law_done"
  | .LAW09 => some "law"
  | _ => none
def Fu.ps : Fu → List Str
  | .is_number => ["part", "low", "high"]
  | .are_sides => ["sides"]
  | .many_of => ["sides"]
  | .is_look => ["look"]
  | .need_look => ["look"]
  | .least_of => ["look"]
  | .greatest_of => ["look"]
  | .places_of => ["sides"]
  | .cell_of => ["look", "place"]
  | .cells_of => ["look"]
  | .cells => ["look"]
  | .need => ["good"]
  | .cut => ["look", "side", "begin", "end", "stride"]
  | .pick => ["look", "side", "place"]
  | .turned => ["look", "order"]
  | .may_lie => ["sides", "wide"]
  | .over => ["look", "wide"]
  | .shaped => ["look", "sides"]
  | .led => ["look", "way"]
  | .led_by => ["look", "way"]
  | .through => ["look", "way"]
  | .laid => ["look", "wide"]
  | .first_places => ["look"]
  | .meets => ["one", "other"]
  | .hinders => ["written", "read"]
  | .hinders_back => ["written", "read", "alone"]
  | .plan_of => ["goal", "source", "word"]
  | .plan => ["goal", "source", "word"]
  | .Lstart => ["_law_script"]
  | .Ldrawn => ["_law_state", "_law_many"]
  | .Lsides => ["_law_state", "_law_most"]
  | .Llook => ["_law_state"]
  | .Lplaces => ["_law_sides_here"]
  | .Lcell => ["_law_look_here", "_law_place"]
  | .Lcells => ["_law_look_here"]
  | .Lway => ["_law_state", "_law_look_here"]
  | .Lother_sides => ["_law_state", "_law_sides_here"]
  | .Lthrough => ["_law_look_here", "_law_way_here"]
  | .Lled => ["_law_look_here", "_law_way_here"]
  | .Lover => ["_law_look_here", "_law_wide"]
  | .Lshaped => ["_law_look_here", "_law_sides_here"]
  | .Lpair => ["_law_state"]
  | .Ldone => ["_law_room", "_law_pairs", "_law_word", "_law_copied"]
  | .LAW09 => ["_law_script"]
  | _ => []
def Fu.loc : Fu → List Str
  | .is_number => ["part", "low", "high"]
  | .are_sides => ["sides", "side"]
  | .many_of => ["sides", "found", "side"]
  | .is_look => ["look", "start", "sides", "steps", "step"]
  | .need_look => ["look"]
  | .least_of => ["look", "side", "step"]
  | .greatest_of => ["look", "side", "step"]
  | .places_of => ["sides", "found", "side", "longer", "place", "k"]
  | .cell_of => ["look", "place", "one", "step"]
  | .cells_of => ["look", "place"]
  | .cells => ["look"]
  | .need => ["good"]
  | .cut => ["look", "side", "begin", "end", "stride", "last", "some", "start", "step", "sides", "steps"]
  | .pick => ["look", "side", "place", "start", "sides", "steps"]
  | .turned => ["look", "order", "one"]
  | .may_lie => ["sides", "wide", "side", "other"]
  | .over => ["look", "wide", "more", "found", "start", "sides", "steps", "side", "other", "step"]
  | .shaped => ["look", "sides", "every", "steps", "behind", "side", "found"]
  | .led => ["look", "way", "found"]
  | .led_by => ["look", "way", "found"]
  | .through => ["look", "way"]
  | .laid => ["look", "wide"]
  | .first_places => ["look", "found", "place"]
  | .meets => ["one", "other", "known", "place"]
  | .hinders => ["written", "read", "last", "number", "cell"]
  | .hinders_back => ["written", "read", "alone", "many", "found", "known", "number"]
  | .plan_of => ["goal", "source", "word", "forth", "back", "places", "written", "read"]
  | .plan => ["goal", "source", "word"]
  | .Lstart => ["_law_script", "_law_mixed", "_law_cell_here"]
  | .Ldrawn => ["_law_state", "_law_many", "_law_found", "_law_cell_here"]
  | .Lsides => ["_law_state", "_law_most", "_law_found", "_law_k", "_law_side"]
  | .Llook => ["_law_state", "_law_sides_here", "_law_steps", "_law_step", "_law_side", "_law_low", "_law_high", "_law_some", "_law_k"]
  | .Lplaces => ["_law_sides_here", "_law_found", "_law_k", "_law_rest"]
  | .Lcell => ["_law_look_here", "_law_place", "_law_found", "_law_k"]
  | .Lcells => ["_law_look_here", "_law_place"]
  | .Lway => ["_law_state", "_law_look_here", "_law_sides_here", "_law_way_here", "_law_k", "_law_side", "_law_stride", "_law_ends", "_law_left", "_law_far", "_law_wide", "_law_one"]
  | .Lother_sides => ["_law_state", "_law_sides_here", "_law_many", "_law_side", "_law_some", "_law_one", "_law_other"]
  | .Lthrough => ["_law_look_here", "_law_way_here", "_law_found", "_law_step"]
  | .Lled => ["_law_look_here", "_law_way_here", "_law_start_here", "_law_sides_here", "_law_steps", "_law_k", "_law_some", "_law_here", "_law_step", "_law_begin", "_law_end", "_law_stride", "_law_one"]
  | .Lover => ["_law_look_here", "_law_wide", "_law_more", "_law_found", "_law_k", "_law_side"]
  | .Lshaped => ["_law_look_here", "_law_sides_here", "_law_every", "_law_places_here", "_law_steps", "_law_k", "_law_found", "_law_unit", "_law_far", "_law_j"]
  | .Lpair => ["_law_state", "_law_one", "_law_other", "_law_turn", "_law_told", "_law_some", "_law_every", "_law_step"]
  | .Ldone => ["_law_room", "_law_pairs", "_law_word", "_law_copied", "_law_found", "_law_cell_here", "_law_whence", "_law_worth"]
  | .LAW09 => ["_law_script", "_law_state", "_law_turn", "_law_goal", "_law_source", "_law_lies", "_law_pairs", "_law_room", "_law_word", "_law_told", "_law_due", "_law_k"]
  | _ => []
def Fu.ix : Fu → Nat
  | .is_number => 9
  | .are_sides => 10
  | .many_of => 11
  | .is_look => 12
  | .need_look => 13
  | .least_of => 14
  | .greatest_of => 15
  | .places_of => 16
  | .cell_of => 17
  | .cells_of => 18
  | .cells => 19
  | .need => 23
  | .cut => 24
  | .pick => 25
  | .turned => 26
  | .may_lie => 27
  | .over => 28
  | .shaped => 29
  | .led => 30
  | .led_by => 31
  | .through => 32
  | .laid => 33
  | .first_places => 34
  | .meets => 35
  | .hinders => 39
  | .hinders_back => 40
  | .plan_of => 41
  | .plan => 42
  | .Lstart => 44
  | .Ldrawn => 45
  | .Lsides => 46
  | .Llook => 47
  | .Lplaces => 48
  | .Lcell => 49
  | .Lcells => 50
  | .Lway => 51
  | .Lother_sides => 52
  | .Lthrough => 53
  | .Lled => 54
  | .Lover => 55
  | .Lshaped => 56
  | .Lpair => 57
  | .Ldone => 58
  | .LAW09 => 59
  | _ => 0
def Fu.po : Fu → Nat
  | .is_number => 0
  | .are_sides => 1
  | .many_of => 2
  | .is_look => 3
  | .need_look => 4
  | .least_of => 5
  | .greatest_of => 6
  | .places_of => 7
  | .cell_of => 8
  | .cells_of => 9
  | .cells => 10
  | .need => 11
  | .cut => 12
  | .pick => 13
  | .turned => 14
  | .may_lie => 15
  | .over => 16
  | .shaped => 17
  | .led => 18
  | .led_by => 19
  | .through => 20
  | .laid => 21
  | .first_places => 22
  | .meets => 23
  | .hinders => 24
  | .hinders_back => 25
  | .plan_of => 26
  | .plan => 27
  | .Lstart => 28
  | .Ldrawn => 29
  | .Lsides => 30
  | .Llook => 31
  | .Lplaces => 32
  | .Lcell => 33
  | .Lcells => 34
  | .Lway => 35
  | .Lother_sides => 36
  | .Lthrough => 37
  | .Lled => 38
  | .Lover => 39
  | .Lshaped => 40
  | .Lpair => 41
  | .Ldone => 42
  | .LAW09 => 43
  | _ => 0
def gcs : EV.Cn := ⟨[("MOST_CELLS", .int 512), ("MOST_SIDES", .int 3), ("MOST_SIDE", .int 8), ("MOST_STRIDE", .int 8)], [("SIZES", [("cut", 5), ("pick", 3), ("turned", 2), ("over", 2), ("shaped", 2)])], [("FORTH", ["forth"]), ("BACK", ["back"])]⟩
abbrev okD (f : Fu) : Bool := EV.defOk Fu.nm gcs (Fu.ps f) (Fu.loc f) (defScope (topS (Fu.ix f))) (Fu.tb f) (defBody (topS (Fu.ix f)))
theorem chk_is_number : okD .is_number = true := by decide +kernel
theorem chk_are_sides : okD .are_sides = true := by decide +kernel
theorem chk_many_of : okD .many_of = true := by decide +kernel
theorem chk_is_look : okD .is_look = true := by decide +kernel
theorem chk_need_look : okD .need_look = true := by decide +kernel
theorem chk_least_of : okD .least_of = true := by decide +kernel
theorem chk_greatest_of : okD .greatest_of = true := by decide +kernel
theorem chk_places_of : okD .places_of = true := by decide +kernel
theorem chk_cell_of : okD .cell_of = true := by decide +kernel
theorem chk_cells_of : okD .cells_of = true := by decide +kernel
theorem chk_cells : okD .cells = true := by decide +kernel
theorem chk_need : okD .need = true := by decide +kernel
theorem chk_cut : okD .cut = true := by decide +kernel
theorem chk_pick : okD .pick = true := by decide +kernel
theorem chk_turned : okD .turned = true := by decide +kernel
theorem chk_may_lie : okD .may_lie = true := by decide +kernel
theorem chk_over : okD .over = true := by decide +kernel
theorem chk_shaped : okD .shaped = true := by decide +kernel
theorem chk_led : okD .led = true := by decide +kernel
theorem chk_led_by : okD .led_by = true := by decide +kernel
theorem chk_through : okD .through = true := by decide +kernel
theorem chk_laid : okD .laid = true := by decide +kernel
theorem chk_first_places : okD .first_places = true := by decide +kernel
theorem chk_meets : okD .meets = true := by decide +kernel
theorem chk_hinders : okD .hinders = true := by decide +kernel
theorem chk_hinders_back : okD .hinders_back = true := by decide +kernel
theorem chk_plan_of : okD .plan_of = true := by decide +kernel
theorem chk_plan : okD .plan = true := by decide +kernel
theorem chk_Lstart : okD .Lstart = true := by decide +kernel
theorem chk_Ldrawn : okD .Ldrawn = true := by decide +kernel
theorem chk_Lsides : okD .Lsides = true := by decide +kernel
theorem chk_Llook : okD .Llook = true := by decide +kernel
theorem chk_Lplaces : okD .Lplaces = true := by decide +kernel
theorem chk_Lcell : okD .Lcell = true := by decide +kernel
theorem chk_Lcells : okD .Lcells = true := by decide +kernel
theorem chk_Lway : okD .Lway = true := by decide +kernel
theorem chk_Lother_sides : okD .Lother_sides = true := by decide +kernel
theorem chk_Lthrough : okD .Lthrough = true := by decide +kernel
theorem chk_Lled : okD .Lled = true := by decide +kernel
theorem chk_Lover : okD .Lover = true := by decide +kernel
theorem chk_Lshaped : okD .Lshaped = true := by decide +kernel
theorem chk_Lpair : okD .Lpair = true := by decide +kernel
theorem chk_Ldone : okD .Ldone = true := by decide +kernel
theorem chk_LAW09 : okD .LAW09 = true := by decide +kernel
theorem chk : ∀ (f : Fu) (g : Str), Fu.nm f = some g → okD f = true := by
  intro f g h
  cases f <;> first
    | exact chk_is_number
    | exact chk_are_sides
    | exact chk_many_of
    | exact chk_is_look
    | exact chk_need_look
    | exact chk_least_of
    | exact chk_greatest_of
    | exact chk_places_of
    | exact chk_cell_of
    | exact chk_cells_of
    | exact chk_cells
    | exact chk_need
    | exact chk_cut
    | exact chk_pick
    | exact chk_turned
    | exact chk_may_lie
    | exact chk_over
    | exact chk_shaped
    | exact chk_led
    | exact chk_led_by
    | exact chk_through
    | exact chk_laid
    | exact chk_first_places
    | exact chk_meets
    | exact chk_hinders
    | exact chk_hinders_back
    | exact chk_plan_of
    | exact chk_plan
    | exact chk_Lstart
    | exact chk_Ldrawn
    | exact chk_Lsides
    | exact chk_Llook
    | exact chk_Lplaces
    | exact chk_Lcell
    | exact chk_Lcells
    | exact chk_Lway
    | exact chk_Lother_sides
    | exact chk_Lthrough
    | exact chk_Lled
    | exact chk_Lover
    | exact chk_Lshaped
    | exact chk_Lpair
    | exact chk_Ldone
    | exact chk_LAW09
    | cases h
def fn_0 : List He.DefD := [EV.mkD "is_number" (topS 9), EV.mkD "are_sides" (topS 10), EV.mkD "many_of" (topS 11), EV.mkD "is_look" (topS 12), EV.mkD "need_look" (topS 13), EV.mkD "least_of" (topS 14), EV.mkD "greatest_of" (topS 15), EV.mkD "places_of" (topS 16), EV.mkD "cell_of" (topS 17), EV.mkD "cells_of" (topS 18), EV.mkD "cells" (topS 19), EV.mkD "need" (topS 23), EV.mkD "cut" (topS 24), EV.mkD "pick" (topS 25), EV.mkD "turned" (topS 26), EV.mkD "may_lie" (topS 27), EV.mkD "over" (topS 28), EV.mkD "shaped" (topS 29), EV.mkD "led" (topS 30), EV.mkD "led_by" (topS 31), EV.mkD "through" (topS 32), EV.mkD "laid" (topS 33), EV.mkD "first_places" (topS 34), EV.mkD "meets" (topS 35), EV.mkD "hinders" (topS 39), EV.mkD "hinders_back" (topS 40), EV.mkD "plan_of" (topS 41), EV.mkD "plan" (topS 42), EV.mkD "_law_start" (topS 44), EV.mkD "_law_drawn" (topS 45)]
def fn_1 : List He.DefD := [EV.mkD "_law_sides" (topS 46), EV.mkD "_law_look" (topS 47), EV.mkD "_law_places" (topS 48), EV.mkD "_law_cell" (topS 49), EV.mkD "_law_cells" (topS 50), EV.mkD "_law_way" (topS 51), EV.mkD "_law_other_sides" (topS 52), EV.mkD "_law_through" (topS 53), EV.mkD "_law_led" (topS 54), EV.mkD "_law_over" (topS 55), EV.mkD "_law_shaped" (topS 56), EV.mkD "_law_pair" (topS 57), EV.mkD "_law_done" (topS 58), EV.mkD "law" (topS 59)]
def fn : List He.DefD := fn_0 ++ fn_1
def fa_0 : List He.Fa := [.glo "is_number", .glo "are_sides", .glo "many_of", .glo "is_look", .glo "need_look", .glo "least_of", .glo "greatest_of", .glo "places_of", .glo "cell_of", .glo "cells_of", .glo "cells", .glo "need", .glo "cut", .glo "pick", .glo "turned", .glo "may_lie", .glo "over", .glo "shaped", .glo "led", .glo "led_by", .glo "through", .glo "laid", .glo "first_places", .glo "meets", .glo "hinders", .glo "hinders_back", .glo "plan_of", .glo "plan", .glo "_law_start", .glo "_law_drawn"]
def fa_1 : List He.Fa := [.glo "_law_sides", .glo "_law_look", .glo "_law_places", .glo "_law_cell", .glo "_law_cells", .glo "_law_way", .glo "_law_other_sides", .glo "_law_through", .glo "_law_led", .glo "_law_over", .glo "_law_shaped", .glo "_law_pair", .glo "_law_done", .glo "law", .free "len", .free "sum", .free "min", .free "max", .free "tuple", .free "list", .free "isinstance", .free "range", .free "reversed", .free "zip", .free "enumerate", .free "int", .free "bool", .free "str", .free "sorted", .free "dict"]
def fa_2 : List He.Fa := [.free "set", .int "MOST_CELLS" 512, .int "MOST_SIDES" 3, .int "MOST_SIDE" 8, .int "MOST_STRIDE" 8, .glo "SIZES", .glo "FORTH", .glo "BACK"]
def fa : List He.Fa := fa_0 ++ fa_1 ++ fa_2
abbrev R : PySem.W.OpenRow := PySem.W.OpenLaw.row PySem.Challenge.rw_viewsheets_k09_whole_orders_do_as_copies
def names_0 : List Str := ["is_number", "are_sides", "many_of", "is_look", "need_look", "least_of", "greatest_of", "places_of", "cell_of", "cells_of", "cells", "need", "cut", "pick", "turned", "may_lie", "over", "shaped", "led", "led_by", "through", "laid", "first_places", "meets", "hinders", "hinders_back", "plan_of", "plan", "_law_start", "_law_drawn"]
def names_1 : List Str := ["_law_sides", "_law_look", "_law_places", "_law_cell", "_law_cells", "_law_way", "_law_other_sides", "_law_through", "_law_led", "_law_over", "_law_shaped", "_law_pair", "_law_done", "SheetError", "BadLook", "BadWay", "BadSides", "__name__", "MOST_CELLS", "MOST_SIDES", "MOST_SIDE", "MOST_STRIDE", "SIZES", "FORTH", "BACK"]
def names : List Str := names_0 ++ names_1
abbrev hk : PySem.W.Hook := EV.hookX 4 fa fn gcs.d gcs.t
def ob (s : PySem.W.SharedT) : EV.AlX := EV.obsXG 4 fa fn gcs.d gcs.t (HandSHeadRun.getT s)
theorem ob_eq (s : PySem.W.SharedT) : ob s = hk.obs s.abs := EV.obsXG_eq (HandSHeadRun.getT_eq s)
theorem run (w : World) : HandSHeadRun.RunEq R (PySem.W.view R.prog [59]) hk ob 20000 names w := by
  revert w
  exact PySem.W.byRow2 "special-get-raises" (fun w => by intro os; kernel_rfl) (fun w => by intro os; kernel_rfl)
def tab : EV.Tab Fu := ⟨fun f => topS (Fu.ix f), Fu.nm, Fu.ps, Fu.loc, Fu.tb⟩
theorem hfn : ∀ (f : Fu) (g : Str), Fu.nm f = some g → ∃ i : Nat, fn[i]? = some (EV.mkD g (topS (Fu.ix f))) := by
  intro f g h
  refine ⟨Fu.po f, ?_⟩
  cases f <;> first | (cases h; done) | (cases h; rfl)
theorem hgl : ∀ (f : Fu) (g : Str), Fu.nm f = some g → ∃ i : Nat, fa[i]? = some (.glo g) := by
  intro f g h
  refine ⟨Fu.po f, ?_⟩
  cases f <;> first | (cases h; done) | (cases h; rfl)
theorem hfr : ∀ x ∈ EV.bNames, ∃ i : Nat, fa[i]? = some (.free x) := by
  unfold EV.bNames
  simp only [List.forall_mem_cons]
  exact ⟨⟨44, rfl⟩, ⟨45, rfl⟩, ⟨46, rfl⟩, ⟨47, rfl⟩, ⟨48, rfl⟩, ⟨49, rfl⟩, ⟨50, rfl⟩, ⟨51, rfl⟩, ⟨52, rfl⟩, ⟨53, rfl⟩, ⟨54, rfl⟩, ⟨55, rfl⟩, ⟨56, rfl⟩, ⟨57, rfl⟩, ⟨58, rfl⟩, ⟨59, rfl⟩, ⟨60, rfl⟩, fun _ h => nomatch h⟩
theorem hcs : ∀ p ∈ gcs.c, ∃ i : Nat, (∃ n, p.2 = .int n ∧ fa[i]? = some (.int p.1 n)) ∨ ∃ y, p.2 = .str y ∧ fa[i]? = some (.str p.1 y) := by
  unfold gcs
  simp only [List.forall_mem_cons]
  exact ⟨⟨61, .inl ⟨_, rfl, rfl⟩⟩, ⟨62, .inl ⟨_, rfl, rfl⟩⟩, ⟨63, .inl ⟨_, rfl, rfl⟩⟩, ⟨64, .inl ⟨_, rfl, rfl⟩⟩, fun _ h => nomatch h⟩
theorem hb : ∀ (f : Fu) (g : Str), Fu.nm f = some g → ∀ (kV doc pm : Value) (an : Option Addr) (cdv ct : Value) (us : List Value), us.length = (Fu.ps f).length → bindArgs (PySem.W.fnOf g g (defArgs (topS (Fu.ix f))) (defBody (topS (Fu.ix f))) (defScope (topS (Fu.ix f))) .none kV doc pm an cdv ct) ⟨us, []⟩ = pure ((Fu.ps f).zip us) := by
  intro f g h kV doc pm an cdv ct us hl
  cases f <;> first | (cases h; done) | skip
  case is_number => cases h; exact match us, hl with | [_, _, _], _ => rfl
  case are_sides => cases h; exact match us, hl with | [_], _ => rfl
  case many_of => cases h; exact match us, hl with | [_], _ => rfl
  case is_look => cases h; exact match us, hl with | [_], _ => rfl
  case need_look => cases h; exact match us, hl with | [_], _ => rfl
  case least_of => cases h; exact match us, hl with | [_], _ => rfl
  case greatest_of => cases h; exact match us, hl with | [_], _ => rfl
  case places_of => cases h; exact match us, hl with | [_], _ => rfl
  case cell_of => cases h; exact match us, hl with | [_, _], _ => rfl
  case cells_of => cases h; exact match us, hl with | [_], _ => rfl
  case cells => cases h; exact match us, hl with | [_], _ => rfl
  case need => cases h; exact match us, hl with | [_], _ => rfl
  case cut => cases h; exact match us, hl with | [_, _, _, _, _], _ => rfl
  case pick => cases h; exact match us, hl with | [_, _, _], _ => rfl
  case turned => cases h; exact match us, hl with | [_, _], _ => rfl
  case may_lie => cases h; exact match us, hl with | [_, _], _ => rfl
  case over => cases h; exact match us, hl with | [_, _], _ => rfl
  case shaped => cases h; exact match us, hl with | [_, _], _ => rfl
  case led => cases h; exact match us, hl with | [_, _], _ => rfl
  case led_by => cases h; exact match us, hl with | [_, _], _ => rfl
  case through => cases h; exact match us, hl with | [_, _], _ => rfl
  case laid => cases h; exact match us, hl with | [_, _], _ => rfl
  case first_places => cases h; exact match us, hl with | [_], _ => rfl
  case meets => cases h; exact match us, hl with | [_, _], _ => rfl
  case hinders => cases h; exact match us, hl with | [_, _], _ => rfl
  case hinders_back => cases h; exact match us, hl with | [_, _, _], _ => rfl
  case plan_of => cases h; exact match us, hl with | [_, _, _], _ => rfl
  case plan => cases h; exact match us, hl with | [_, _, _], _ => rfl
  case Lstart => cases h; exact match us, hl with | [_], _ => rfl
  case Ldrawn => cases h; exact match us, hl with | [_, _], _ => rfl
  case Lsides => cases h; exact match us, hl with | [_, _], _ => rfl
  case Llook => cases h; exact match us, hl with | [_], _ => rfl
  case Lplaces => cases h; exact match us, hl with | [_], _ => rfl
  case Lcell => cases h; exact match us, hl with | [_, _], _ => rfl
  case Lcells => cases h; exact match us, hl with | [_], _ => rfl
  case Lway => cases h; exact match us, hl with | [_, _], _ => rfl
  case Lother_sides => cases h; exact match us, hl with | [_, _], _ => rfl
  case Lthrough => cases h; exact match us, hl with | [_, _], _ => rfl
  case Lled => cases h; exact match us, hl with | [_, _], _ => rfl
  case Lover => cases h; exact match us, hl with | [_, _], _ => rfl
  case Lshaped => cases h; exact match us, hl with | [_, _], _ => rfl
  case Lpair => cases h; exact match us, hl with | [_], _ => rfl
  case Ldone => cases h; exact match us, hl with | [_, _, _, _], _ => rfl
  case LAW09 => cases h; exact match us, hl with | [_], _ => rfl
theorem faok {K : PySem.W.Frag} (c : He.SaysD fa fn K) {i : Nat} {f : He.Fa} (h : fa[i]? = some f) : f.ok K = true := by
  have e : ((fa.all fun f => f.ok K) && fn.all fun d => d.ok K) = true := congrArg (fun z : He.AlD => z.1) c
  exact List.all_eq_true.mp (Bool.and_eq_true_iff.mp e).1 f (List.mem_of_getElem? h)
end LW
open PySem PySem.W PySem.Calls PyProof.Rows
theorem PySem.Challenge.holds_of (hp : ∀ ns : List Int, ns.length ≤ 63 → ∃ s, EV.call LW.Fu.tb 24 .LAW09 [.scr ns] ⟨0, []⟩ = .ok (.v (.bl true)) s) : PySem.Challenge.rw_viewsheets_k09_whole_orders_do_as_copies.Holds := by
  w_on; o_law
  refine HandSHeadRun.head_any (r := OpenLaw.row PySem.Challenge.rw_viewsheets_k09_whole_orders_do_as_copies) (q := view (OpenLaw.row PySem.Challenge.rw_viewsheets_k09_whole_orders_do_as_copies).prog [59]) (H := LW.hk) (ob := LW.ob) (M := 20000) (loose := LW.names) (d := HandSHeadRun.topDef (OpenLaw.row PySem.Challenge.rw_viewsheets_k09_whole_orders_do_as_copies).prog 59) (kwd := []) LW.ob_eq
    (by kernel_rfl) (fun s => by kernel_rfl) LW.run (by kernel_rfl) (by kernel_rfl) (by kernel_rfl) (by rfl) (by first | assumption | decide +kernel) (by decide +kernel) ⟨rfl, rfl, rfl, rfl, rfl, by decide +kernel⟩ ?hw ?hc
  case hw => w_witness2
  case hc =>
    refine L2.walk_ofE (l := PySem.Challenge.rw_viewsheets_k09_whole_orders_do_as_copies) (n := 63) (k := 24) (x := "_law_script") (CX := EV.CXA) rfl (by decide) (by kernel_rfl) ⟨rfl, by decide, by decide⟩ ?F EV.cx_no
    intro w mg fa h Y G hmg0
    obtain ⟨K, KX, c0⟩ := Y
    have c := EV.SaysX.d c0
    have hmg : mg ("law" : Str) = some (.ref fa) := by
      have e : (HandSHeadRun.topDef (OpenLaw.row PySem.Challenge.rw_viewsheets_k09_whole_orders_do_as_copies).prog 59).name = ("law" : Str) := by kernel_rfl
      rw [← e]
      exact hmg0
    obtain ⟨G', fd, h1, h2, h3⟩ := EV.facts (P := (PySem.Challenge.rw_viewsheets_k09_whole_orders_do_as_copies).prog) (w := w) LW.tab .LAW09 "law" rfl 24 KX G hmg c LW.chk LW.hfn LW.hgl LW.hfr LW.hcs
      (fun x t h => by
        have hm := EV.lkm_mem h
        have hx : x = "SIZES" := by
          have hm2 : (x, t) ∈ [(("SIZES" : Str), ([("cut", 5), ("pick", 3), ("turned", 2), ("over", 2), ("shaped", 2)] : List (Str × Int)))] := hm
          exact congrArg Prod.fst (List.mem_singleton.mp hm2)
        subst hx
        exact ⟨_, He.glo_ok KX G (LW.faok c (i := 65) rfl), EV.SaysX.dic c0 h⟩)
      (fun x l h => by
        have hm := EV.lkm_mem h
        have hx : x = "FORTH" ∨ x = "BACK" := by
          have hm2 : (x, l) ∈ [(("FORTH" : Str), (["forth"] : List Str)), ("BACK", ["back"])] := hm
          rcases List.mem_cons.mp hm2 with e | e
          · exact .inl (congrArg Prod.fst e)
          · exact .inr (congrArg Prod.fst (List.mem_singleton.mp e))
        rcases hx with rfl | rfl
        · exact ⟨_, He.glo_ok KX G (LW.faok c (i := 66) rfl), fun H => EV.SaysX.tup c0 h H⟩
        · exact ⟨_, He.glo_ok KX G (LW.faok c (i := 67) rfl), fun H => EV.SaysX.tup c0 h H⟩)
      LW.hb
    exact ⟨K, fd, _, KX, fun s u => h2 s [u] rfl, fun H a ns hl hO hS => EV.sp_law (by rw [h1]; rfl) (hp ns hl) hO hS, h3⟩

theorem PySem.Challenge.cw_viewsheets_k09_whole_orders_do_as_copies_holds : PySem.Challenge.rw_viewsheets_k09_whole_orders_do_as_copies.Holds := by
  exact PySem.Challenge.holds_of fun ns _ => LW.plain ns
