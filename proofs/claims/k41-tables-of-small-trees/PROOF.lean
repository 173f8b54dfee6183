import PyProof.Rows.All
import Wide.All
import OpenK.AllK
import Wide.FinOn
import HandS.ForMost
import HandS.Evl
import HandS.SortInts
import HandS.IsInst
import HandS.SetFor
import HandS.Sort
import HandS.TupAny
import HandS.Wide
import KE.SortData
import KE.KEqSeq
import PyProof.P3Eq
import KE.KDictCopyH
import PyProof.ListRange
import KE.KDictPairs
import HandS.Deep
import HandS.Zip
import HandS.Style
import KE.GoesMore
import KE.GoesEnum
import HandS.TupSets
import HandS.More
import HandS.TupMul
import KE.DataMinMax
import HandS.Conv
import HandS.Iter
import PyProof.Rows.SeqMore
import PySem.Challenge.RW_partedweb_k41_tables_of_small_trees
set_option Elab.async false
set_option linter.all false
set_option maxRecDepth 100000
set_option maxHeartbeats 8000000
/-! ## PwRules -/
namespace Pw
open PySem PySem.Spec PyProof.Rows L2 PySem.W
abbrev AIs {α β : Type} := @PySem.W.EachIs α β

/-! ### rules that the layer lacks -/
section
variable {X : Cx}
/-- one thing or the other, the first reading or the second -/
theorem pi_or {tg iter : Expr} {w1 w2 : TI} (h1 : PI X tg iter w1) (h2 : PI X tg iter w2) : PI X tg iter (fun σ H R => w1 σ H R ∨ w2 σ H R) :=
  ⟨fun pins s σ H R I h => h.elim (h1.run pins s σ H R I) (h2.run pins s σ H R I)⟩
theorem pe_or2 {e : Expr} {t1 t2 : TE} (h1 : PE X e t1) (h2 : PE X e t2) : PE X e (fun σ H Q => t1 σ H Q ∨ t2 σ H Q) :=
  ⟨fun pins s σ H Q I h => h.elim (h1.run pins s σ H Q I) (h2.run pins s σ H Q I)⟩
theorem callR_or {f : Value} {r1 r2 : List V → Hp → VK → Prop} (h1 : CallR X f r1) (h2 : CallR X f r2) : CallR X f (fun vs H Q => r1 vs H Q ∨ r2 vs H Q) :=
  fun pins s σ H xs us Q I r h => h.elim (h1 pins s σ H xs us Q I r) (h2 pins s σ H xs us Q I r)
theorem opR_or {f : Value → Value → Sem Value} {r1 r2 : R2} (h1 : OpR X f r1) (h2 : OpR X f r2) : OpR X f (fun x y H Q => r1 x y H Q ∨ r2 x y H Q) :=
  fun pins s σ H x y u v Q I rx ry h => h.elim (h1 pins s σ H x y u v Q I rx ry) (h2 pins s σ H x y u v Q I rx ry)

theorem cr_range1 : CallR X (.type "range") (fun vs H Q => ∃ j, vs = [V.int j] ∧ ∀ p, H p = none → Q (.ref p) (upd H p (.rng 0 j))) := by
  intro pins s σ H vs us Q I r h
  obtain ⟨j, rfl, q⟩ := h
  obtain ⟨u1, rfl, rj⟩ := vals1 r
  obtain ⟨u, rfl⟩ := rj
  refine call_range_1 ⟨.ref s.heap.objs.size, upd H s.heap.objs.size (.rng 0 j), I.laid (t' := s.toks + 2) (fun b o e => Heap.get?_push_of_some _ e) (Nat.le_refl _) ?_, rfl, q _ (I.hok.fresh (Nat.le_refl _))⟩
  exact ⟨s.toks, u, s.toks + 1, Heap.get?_push_size _ rfl⟩

theorem rangeSize1 {a b : Int} : Builtin.Range.rangeSize a b 1 = ((b - a).toNat : Int) := by
  unfold Builtin.Range.rangeSize
  rw [if_pos (by decide)]
  by_cases h : a < b
  · rw [if_pos h]; omega
  · rw [if_neg h]; omega


theorem paired_of {α β : Type} {F : α → β → Prop} : ∀ {xs : List α} {ys : List β}, xs.length = ys.length → (∀ (i : Nat) x y, xs[i]? = some x → ys[i]? = some y → F x y) → Paired F xs ys
  | [], [], _, _ => .nil
  | [], _ :: _, h, _ => by simp at h
  | _ :: _, [], h, _ => by simp at h
  | x :: xs, y :: ys, h, g => .cons (g 0 x y rfl rfl) (paired_of (by simpa using h) fun i a b ha hb => g (i + 1) a b (by simpa using ha) (by simpa using hb))

/-- list(range(..)) -/
theorem call_list_rng (hh : X.calm = true) : CallR X (.type "list") (fun vs H Q => ∃ (r : Addr) (a b : Int), vs = [V.ref r] ∧ H r = some (.rng a b) ∧ -(2 ^ 61) ≤ a ∧ a < 2 ^ 61 ∧ -(2 ^ 61) ≤ b ∧ b < 2 ^ 61 ∧ (b - a).toNat ≤ 100000 ∧
    ∀ p, H p = none → Q (.ref p) (upd H p (.lst ((List.range (b - a).toNat).map fun (i : Nat) => V.int (a + (i : Int)))))) := by
  intro pins s σ H vs us Q I rr h
  obtain ⟨r, a, b, rfl, hr, h1, h2, h3, h4, hn, q⟩ := h
  obtain ⟨u, rfl, ru⟩ := vals1 rr
  cases ru
  obtain ⟨t, u, v, ho⟩ := (show ObjOk X.prog X.w H s.heap r (.rng a b) from I.hok r _ hr)
  refine call_list_range (I.ok.hd hh) (a := a) (b := b) (c := 1) (t := t) (u := u) (v := v) (n := (b - a).toNat) ho ?_ rangeSize1 (by omega) fun h' tk acc' c' hk hS hI => ?_
  · unfold Builtin.Range.small
    rw [rangeSize1]
    simp only [Builtin.Range.rangeFitsLong, Bool.and_eq_true, Bool.or_eq_true, decide_eq_true_eq, if_pos (show (1 : Int) > 0 by decide)]
    refine ⟨⟨⟨⟨?_, ?_⟩, ?_⟩, ?_⟩, Or.inr ?_⟩ <;> omega
  · refine ⟨.ref s.heap.objs.size, _, I.laid (t' := tk) hk (Nat.le_refl _) (o := .lst ((List.range (b - a).toNat).map fun (i : Nat) => V.int (a + (i : Int)))) ⟨?_, acc'.toList, c', ?_, ?_⟩, rfl, q _ (I.hok.fresh (Nat.le_refl _))⟩
    · rw [List.length_map, List.length_range]
      exact Nat.le_trans hn (by decide)
    · refine paired_of ?_ fun j x y hx hy => ?_
      · rw [List.length_map, List.length_range, Array.length_toList, hI.1]
      · rw [List.getElem?_map] at hx
        obtain ⟨i, hi, rfl⟩ := Option.map_eq_some_iff.mp hx
        have e := List.getElem?_eq_some_iff.mp hi
        obtain ⟨e1, e2⟩ := e
        rw [List.getElem_range] at e2
        subst e2
        obtain ⟨tk, ey⟩ := hI.2 j y (by rw [← Array.getElem?_toList]; exact hy)
        exact ⟨tk, by rw [ey, Int.mul_one]⟩
    · rw [Array.toArray_toList]; exact hS

/-! ### [truths].count(truth) -/
def eqb (k : Bool) (v : Value) : Bool := match v with
  | .bool n => n == k
  | _ => false
theorem mt_lcountB : MtR X "list.count" (fun x xs H Q => ∃ (p : Addr) (ns : List Bool) (k : Bool), x = .ref p ∧ xs = [.bl k] ∧ SqL X.K H p (ns.map V.bl) ∧ Q (.int (ns.count k : Nat)) H) := by
  intro pins s σ H x xs v us Q I rx rxs h
  obtain ⟨p, ns, k, rfl, rfl, hs, q⟩ := h
  cases rx
  obtain ⟨u, rfl, ru⟩ := rxs.one
  cases (show u = Value.bool k from ru)
  obtain ⟨its, rv, ⟨⟨cls, dd, data, sl⟩, n, ho, hc, hdn, hd⟩, hlen⟩ := I.list hs
  simp only at hc hd
  subst hc hd
  have hb : ∀ y ∈ its, ∃ b, y = Value.bool b := by
    intro y hy
    obtain ⟨i, hi, e⟩ := List.mem_iff_getElem.mp hy
    have e1 : its[i]? = some y := by rw [List.getElem?_eq_getElem hi, e]
    have hl := rv.length
    obtain ⟨u, e2, e3⟩ := rv.get (i := i) (x := (ns.map V.bl)[i]'(by omega)) (List.getElem?_eq_getElem _)
    rw [e1] at e2
    cases e2
    rw [List.getElem_map] at e3
    exact ⟨_, e3⟩
  have hcount : ∀ {ns : List Bool} {its : List Value}, Vals (ns.map V.bl) its → its.countP (eqb k) = ns.count k := by
    intro ns
    induction ns with
    | nil => intro its r; cases r; rfl
    | cons b bs ih =>
      intro its r
      cases r with
      | cons r1 r2 =>
        cases (show _ = Value.bool b from r1)
        rw [List.countP_cons, List.count_cons, ih r2] <;> rfl
  refine call_meets PySem.F.slot_list_count ⟨_, ho, rfl⟩ PySem.F.entry_list_count (PySem.F.args_list_count_2 _ _)
    (SeqAt.list_countAt p its.toArray n dd sl (.bool k) (eqb k)) ⟨ho, fun y hy => ?_, ?_⟩
  · obtain ⟨b, rfl⟩ := hb y (by simpa using hy)
    exact SeqAt.EqAt.bool_bool b k
  · refine ⟨.int (ns.count k : Nat), H, I.tok _, ⟨s.toks, ?_⟩, q⟩
    show Value.int ((its.toArray.toList.countP (eqb k) : Nat) : Int) s.toks = Value.int ((ns.count k : Nat) : Int) s.toks
    rw [show its.toArray.toList = its by simp, hcount rv]

/-! ### sorted of tuples of ints -/
def encTI (b : Addr × List Int) : PyData := .tuple (b.2.map .int)
abbrev leTI (b c : Addr × List Int) : Bool := dataLe false encTI b c
theorem reads_ints {h : Heap} : ∀ {ns : List Int} {its : List Value}, Vals (ns.map V.int) its → ReadsAll h its (ns.map .int) []
  | [], _, r => by cases r; exact .nil
  | n :: ns, _, r => by
    cases r with
    | cons r1 r2 =>
      obtain ⟨t, rfl⟩ := r1
      exact ReadsAll.cons (as := []) (bs := []) (.int n t) (reads_ints r2)
theorem reads_ti {h : Heap} {t : Addr} {ns : List Int} {its : List Value} (ht : IsTup h t its.toArray) (r : Vals (ns.map V.int) its) : Reads h (.ref t) (.tuple (ns.map .int)) [] := by
  obtain ⟨o, ho, hc, n, hd⟩ := ht
  exact Reads.tuple ho hc hd (by simpa using reads_ints r)
theorem alike_enc (b c : Addr × List Int) : alike (encTI b) (encTI c) = true := by
  show alikeAll _ _ = true
  exact alike_ints _ _
theorem depth_enc (b : Addr × List Int) : (encTI b).depth ≤ 1 := by
  unfold encTI
  rw [PyData.depth, depth_ints]
  all_goals omega
theorem each_ti {s : Shared} {pins : List (Addr × Obj)} {σ : L2.St} {H : Hp} (I : L2.Inv X pins σ H s) : ∀ {bs : List (Addr × List Int)}, (∀ b ∈ bs, SqT X.K H b.1 (b.2.map V.int)) → EachIs (fun v b => ∃ as, Reads s.heap v (encTI b) as ∧ as = []) (bs.map fun b => Value.ref b.1) bs
  | [], _ => .nil
  | b :: bs, h => by
    refine .cons ?_ (each_ti I fun c hc => h c (List.mem_cons_of_mem _ hc))
    obtain ⟨its, r, ht, _⟩ := I.tuple (h b List.mem_cons_self)
    exact ⟨[], reads_ti ht r, rfl⟩
theorem each_id : ∀ {bs : List (Addr × List Int)}, EachIs (fun (v : Value) (b : Addr × List Int) => v = .ref b.1) (bs.map fun b => Value.ref b.1) bs
  | [] => .nil
  | _ :: _ => .cons rfl each_id
theorem each_out : ∀ {out : List Value} {bs : List (Addr × List Int)}, EachIs (fun (v : Value) (b : Addr × List Int) => v = .ref b.1) out bs → out = bs.map fun b => Value.ref b.1
  | _, _, .nil => rfl
  | _, _, .cons h t => by rw [h, each_out t]; rfl
theorem vals_refs : ∀ {bs : List (Addr × List Int)}, Vals (bs.map fun b => V.ref b.1) (bs.map fun b => Value.ref b.1)
  | [] => .nil
  | _ :: _ => .cons rfl vals_refs
theorem vals_refs_eq : ∀ {bs : List (Addr × List Int)} {its : List Value}, Vals (bs.map fun b => V.ref b.1) its → its = bs.map fun b => Value.ref b.1
  | [], _, r => by cases r; rfl
  | b :: bs, _, r => by
    cases r with
    | cons r1 r2 => rw [show _ = Value.ref b.1 from r1, vals_refs_eq r2]; rfl

/-- sorted(xs), xs a list of tuples of ints -/
theorem cr_sortedTI (hu : X.A.units + 64 < cLine) : CallR X (.builtin "sorted") (fun vs H Q => ∃ (a : Addr) (bs : List (Addr × List Int)), vs = [V.ref a] ∧ SqL X.K H a (bs.map fun b => V.ref b.1) ∧ (∀ b ∈ bs, b.2 ≠ [] ∧ SqT X.K H b.1 (b.2.map V.int)) ∧
    ∀ p, H p = none → Q (.ref p) (upd H p (.lst ((bs.mergeSort leTI).map fun b => V.ref b.1)))) := by
  intro pins s σ H vs us Q I r h
  obtain ⟨a, bs, rfl, hl, hb, q⟩ := h
  obtain ⟨u, rfl, ru⟩ := vals1 r
  cases ru
  obtain ⟨its, rv, pl, hz⟩ := I.list hl
  have e := vals_refs_eq rv
  subst e
  rw [List.length_map] at hz
  refine sorted_data (R := fun v b => v = .ref b.1) (enc := encTI) (bs := bs) pl.isList each_id ((each_ti I fun b hb' => (hb b hb').2).mono fun _ _ ⟨as, h, _⟩ => ⟨as, h⟩) (.of fun b c => alike_enc b c) ?_ hz (fun b _ => ?_) fun out ho eo => ?_
  · refine .inl fun d hd => ?_
    obtain ⟨b, hb', rfl⟩ := List.mem_map.mp hd
    have h0 := (hb b hb').1
    unfold encTI
    cases e : b.2 with
    | nil => exact absurd e h0
    | cons x r => exact ⟨_, _, rfl⟩
  · have := depth_enc b
    omega
  · have e := each_out eo
    subst e
    obtain ⟨c, hc⟩ := sortedAll_at s.heap (bs.map fun b => Value.ref b.1) ((bs.mergeSort (dataLe false encTI)).map fun b => Value.ref b.1).toArray
    refine ⟨.ref (s.heap.objs.size + 1), _, I.laid (t' := s.toks) (fun b o => sortedAll_old) (Nat.le_succ _) (o := .lst ((bs.mergeSort leTI).map fun b => V.ref b.1)) ⟨?_, _, c, vals_refs, hc⟩, rfl, q _ (I.hok.fresh (Nat.le_succ _))⟩
    rw [List.length_map, List.length_mergeSort]
    exact hz

theorem kt_split {H : Hp} : ∀ {kvs : List (List Key × V)} {xs : List (List Key × Addr × Value)} {ks : List (List Int)}, KT H kvs xs → kvs.map (·.1) = ks.map (·.map Sum.inl) →
    ∃ bs : List (Addr × List Int), bs.map (·.2) = ks ∧ bs.map (·.1) = xs.map (·.2.1) ∧ ∀ b ∈ bs, H b.1 = some (.tup (b.2.map V.int))
  | _, _, [], .nil, _ => ⟨[], rfl, rfl, fun b hb => by cases hb⟩
  | _, _, _ :: _, .nil, e => by simp at e
  | _, _, [], .cons _ _, e => by simp at e
  | (k, v) :: kvs, (k', a, u) :: xs, n :: ns, .cons h t, e => by
    simp only [List.map_cons, List.cons.injEq] at e
    obtain ⟨bs, e1, e2, e3⟩ := kt_split t e.2
    refine ⟨(a, n) :: bs, by rw [List.map_cons, e1], by rw [List.map_cons, List.map_cons, e2], fun b hb => ?_⟩
    rcases List.mem_cons.mp hb with rfl | hb
    · have h2 : H a = some (.tup (k.map kV)) := h.2.1
      rw [e.1] at h2
      rw [h2, List.map_map]
      rfl
    · exact e3 b hb

/-- sorted(d), d a dict whose keys are tuples of ints -/
theorem cr_sortedDT (hcalm : X.calm = true) (hu : X.A.units + 64 < cLine) : CallR X (.builtin "sorted") (fun vs H Q => ∃ (a : Addr) (kvs : List (List Key × V)) (ks : List (List Int)), vs = [V.ref a] ∧ Rd H a (.dT kvs) ∧ kvs.map (·.1) = ks.map (·.map Sum.inl) ∧ (∀ k ∈ ks, k ≠ []) ∧
    ∀ (bs : List (Addr × List Int)) p, bs.map (·.2) = ks → (∀ b ∈ bs, H b.1 = some (.tup (b.2.map V.int))) → H p = none → Q (.ref p) (upd H p (.lst ((bs.mergeSort leTI).map fun b => V.ref b.1)))) := by
  intro pins s σ H vs us Q I r h
  obtain ⟨a, kvs, ks, rfl, hd, hks, hne, q⟩ := h
  obtain ⟨u, rfl, rx⟩ := vals1 r
  cases rx
  obtain ⟨z, lo, xs, rel, o, es, ep, ho, hex, hdat, hes, hkk, hnd⟩ := dt_rd I.hok hd
  obtain ⟨bs, e1, e2, e3⟩ := kt_split rel hks
  have hlen : es.size = bs.length := by
    have e := congrArg List.length e2
    rw [List.length_map, List.length_map] at e
    rw [← Array.length_toList, hes, List.length_map, e]
  have hl2 : kvs.length = bs.length := by
    have e := congrArg List.length hks
    have e' := congrArg List.length e1
    simp only [List.length_map] at e e'
    omega
  refine Calls.call_function_entry PyProof.Rows.kind_sorted PyProof.Rows.plain_sorted PyProof.Rows.entry_sorted (PyProof.Rows.args_sorted1 _) ?_
  unfold Builtin.«sorted»
  refine wpAny_bind (m := checkCount "sorted" 1 1 _) (wpAny_pure ?_)
  refine wpAny_bind (PySem.W.kdu_collect (A := X.A.in1) (KdlSrc.rawDict (es := es) (ep := ep) lo) (I.ok.hd hcalm) ⟨o, ho, hex, hdat⟩ (by omega) fun h' tk acc hk hacc => ?_)
  have hacc2 : acc.toList = bs.map fun b => Value.ref b.1 := by
    refine List.ext_getElem? fun i => ?_
    rw [List.getElem?_map]
    by_cases hi : i < bs.length
    · obtain ⟨v, hv⟩ : ∃ v, acc[i]? = some v := ⟨acc[i]'(by rw [hacc.1]; omega), Array.getElem?_eq_getElem _⟩
      obtain ⟨hi2, e⟩ := hacc.2 i v hv
      rw [Array.getElem?_toList, hv, e]
      have e4 : es.toList[i]? = some es[i] := by rw [Array.getElem?_toList, Array.getElem?_eq_getElem hi2]
      rw [hes, List.getElem?_map] at e4
      obtain ⟨x, hx, ex⟩ := Option.map_eq_some_iff.mp e4
      have e5 : (bs.map (·.1))[i]? = some x.2.1 := by rw [e2, List.getElem?_map, hx]; rfl
      rw [List.getElem?_map] at e5
      obtain ⟨b, hb, eb⟩ := Option.map_eq_some_iff.mp e5
      rw [hb, ← ex]
      show some (Value.ref x.2.1) = some (Value.ref b.1)
      rw [eb]
    · rw [List.getElem?_eq_none (by rw [Array.length_toList, hacc.1]; omega), List.getElem?_eq_none (by omega)]
      rfl
  have I1 : Inv X pins σ H { s with heap := h', toks := tk } := I.kept hk
  rw [hacc2]
  refine wpAny_bind (wpAny_newList ?_ (by rw [List.length_map]; omega))
  have hoL : (h'.push (seqObj "list" (bs.map fun b => Value.ref b.1).toArray 0)).get? h'.objs.size = some (seqObj "list" (bs.map fun b => Value.ref b.1).toArray 0) := Heap.get?_push_size _ rfl
  show wpAny _ _ _ _ _ { s with heap := h'.push (seqObj "list" (bs.map fun b => Value.ref b.1).toArray 0), toks := tk }
  have I2 : Inv X pins σ H { s with heap := h'.push (seqObj "list" (bs.map fun b => Value.ref b.1).toArray 0), toks := tk } := I1.kept (t' := tk) fun b u z => Heap.get?_push_of_some _ z
  refine wpAny_bind (wpAny_holding (list_sort_data (R := fun v b => v = .ref b.1) (enc := encTI) (bs := bs) hoL each_id ((each_ti I2 fun b hb' => .inl (.inl (e3 b hb'))).mono fun _ _ ⟨as, h, e⟩ => ⟨as, h, by rw [e]; exact List.not_mem_nil⟩) (.of fun b c => alike_enc b c) ?_ (by omega) (fun b _ => ?_) fun out hout eo => ?_))
  · refine .inl fun d hd => ?_
    obtain ⟨b, hb', rfl⟩ := List.mem_map.mp hd
    have h0 : b.2 ≠ [] := hne _ (by rw [← e1]; exact List.mem_map.mpr ⟨b, hb', rfl⟩)
    unfold encTI
    cases e : b.2 with
    | nil => exact absurd e h0
    | cons x r => exact ⟨_, _, rfl⟩
  · have := depth_enc b
    show X.A.units + 1 + 1 + (encTI b).depth < cLine
    omega
  · have e := each_out eo
    subst e
    obtain ⟨e', he'⟩ := PyProof.Rows.sortedHeap_at (vs := bs.map fun b => Value.ref b.1) (out := ((bs.mergeSort (dataLe false encTI)).map fun b => Value.ref b.1).toArray) hoL
    refine wpAny_pure ⟨_, rfl, .ref h'.objs.size, upd H h'.objs.size (.lst ((bs.mergeSort leTI).map fun b => V.ref b.1)), I1.laid (t' := tk) (fun b u e => ?_) (Nat.le_refl _)
      (show ObjOk X.prog X.w _ _ _ (.lst ((bs.mergeSort leTI).map fun b => V.ref b.1)) from ⟨?_, _, e', vals_refs, he'⟩), rfl, q bs _ e1 e3 (I1.hok.fresh (Nat.le_refl _))⟩
    · have hb : b < h'.objs.size := Heap.lt_size e
      rw [PyProof.Rows.sortedHeap_old (Nat.ne_of_lt hb) (by rw [size_push']; exact Nat.lt_succ_of_lt hb)]
      exact Heap.get?_push_of_some _ e
    · rw [List.length_map, List.length_mergeSort]
      omega
end
end Pw

/-! ## PwBase -/
namespace Pw
open PySem L2 Evl

/-! ### heaps: all but some objects is as it was -/
def Xs (S : List Addr) (H H' : Hp) : Prop := ∀ a o, a ∉ S → H a = some o → H' a = some o
theorem Xs.refl {S : List Addr} {H : Hp} : Xs S H H := fun _ _ _ h => h
theorem Xs.trans {S : List Addr} {H H1 H2 : Hp} (x : Xs S H H1) (y : Xs S H1 H2) : Xs S H H2 := fun a o n h => y a o n (x a o n h)
theorem Xs.of {S : List Addr} {H H' : Hp} (e : Ex H H') : Xs S H H' := fun a o _ h => e a o h
theorem Xs.weak {S T : List Addr} {H H' : Hp} (x : Xs S H H') (h : ∀ a ∈ S, a ∈ T) : Xs T H H' := fun a o n e => x a o (fun m => n (h a m)) e
theorem Xs.put {S : List Addr} {H H' : Hp} {a : Addr} {o : HO} (x : Xs S H H') (h : a ∈ S) : Xs S H (upd H' a o) := fun b u n e => by
  rw [upd_ne (fun z => n (by rw [z]; exact h))]
  exact x b u n e
theorem Xs.new {S : List Addr} {H H' : Hp} {p : Addr} {o : HO} (x : Xs S H H') (h : H' p = none) : Xs S H (upd H' p o) := fun b u n e => by
  have e1 := x b u n e
  rw [upd_ne (ne_of_none e1 h)]
  exact e1
theorem Xs.ex {S : List Addr} {B H H' : Hp} (x : Xs S H H') (e : Ex B H) (n : ∀ a ∈ S, B a = none) : Ex B H' := fun a o h => x a o (fun m => by rw [n a m] at h; cases h) (e a o h)
theorem Xs.ex1 {b : Addr} {B H H' : Hp} (x : Xs [b] H H') (e : Ex B H) (n : B b = none) : Ex B H' := x.ex e fun a m => by
  rw [List.mem_singleton.mp m]
  exact n
/-- the heap without some objects -/
def mi (H : Hp) (S : List Addr) : Hp := fun a => if a ∈ S then none else H a
theorem mi_ex {H : Hp} {S : List Addr} : Ex (mi H S) H := fun a o h => by
  unfold mi at h
  by_cases m : a ∈ S
  · rw [if_pos m] at h; cases h
  · rw [if_neg m] at h; exact h
theorem mi_no {H : Hp} {S : List Addr} {a : Addr} (m : a ∈ S) : mi H S a = none := by unfold mi; rw [if_pos m]
theorem mi_at {H : Hp} {S : List Addr} {a : Addr} (m : a ∉ S) : mi H S a = H a := by unfold mi; rw [if_neg m]
theorem ex_mi {B H : Hp} {S : List Addr} (e : Ex B H) (n : ∀ a ∈ S, B a = none) : Ex B (mi H S) := fun a o h => by
  rw [mi_at (fun m => by rw [n a m] at h; cases h)]
  exact e a o h
theorem ex_mi1 {B H : Hp} {b : Addr} (e : Ex B H) (n : B b = none) : Ex B (mi H [b]) := ex_mi e fun a m => by
  rw [List.mem_singleton.mp m]
  exact n
theorem mi_no1 {H : Hp} {b : Addr} : mi H [b] b = none := mi_no (List.mem_singleton.mpr rfl)
theorem ex_upd {B H : Hp} {a : Addr} {o : HO} (e : Ex B H) (n : B a = none) : Ex B (upd H a o) := fun b u h => by
  rw [upd_ne (fun z => by rw [z, n] at h; cases h)]
  exact e b u h

/-! ### data: its tuples stand in the heap by themselves -/
mutual
inductive Dq (K : PySem.W.Frag) (H : Hp) : V → PyData → Prop
  | non : Dq K H .non .none
  | bl (b : Bool) : Dq K H (.bl b) (.bool b)
  | int (i : Int) : Dq K H (.int i) (.int i)
  | str (x : Str) : Dq K H (.str x) (.str x)
  | lst {a : Addr} {xs : List V} {ds : List PyData} : SqL K H a xs → DqAll K H xs ds → Dq K H (.ref a) (.list ds)
  | tup {a : Addr} {xs : List V} {ds : List PyData} : H a = some (.tup xs) → DqAll K H xs ds → Dq K H (.ref a) (.tuple ds)
inductive DqAll (K : PySem.W.Frag) (H : Hp) : List V → List PyData → Prop
  | nil : DqAll K H [] []
  | cons {v : V} {vs : List V} {d : PyData} {ds : List PyData} : Dq K H v d → DqAll K H vs ds → DqAll K H (v :: vs) (d :: ds)
end
mutual
theorem Dq.mono {K : PySem.W.Frag} {H H' : Hp} (e : Ex H H') : ∀ {v : V} {d : PyData}, Dq K H v d → Dq K H' v d
  | _, _, .non => .non
  | _, _, .bl b => .bl b
  | _, _, .int i => .int i
  | _, _, .str x => .str x
  | _, _, .lst h a => .lst (ex_l e h) (DqAll.mono e a)
  | _, _, .tup h a => .tup (e _ _ h) (DqAll.mono e a)
theorem DqAll.mono {K : PySem.W.Frag} {H H' : Hp} (e : Ex H H') : ∀ {vs : List V} {ds : List PyData}, DqAll K H vs ds → DqAll K H' vs ds
  | _, _, .nil => .nil
  | _, _, .cons h t => .cons (Dq.mono e h) (DqAll.mono e t)
end
mutual
theorem Dq.dp {K : PySem.W.Frag} {H : Hp} : ∀ {v : V} {d : PyData}, Dq K H v d → L2.Dp K H v d
  | _, _, .non => .non
  | _, _, .bl b => .bl b
  | _, _, .int i => .int i
  | _, _, .str x => .str x
  | _, _, .lst h a => .lst h (DqAll.dp a)
  | _, _, .tup h a => .tup (st_of h) (DqAll.dp a)
theorem DqAll.dp {K : PySem.W.Frag} {H : Hp} : ∀ {vs : List V} {ds : List PyData}, DqAll K H vs ds → L2.DpAll K H vs ds
  | _, _, .nil => .nil
  | _, _, .cons h t => .cons (Dq.dp h) (DqAll.dp t)
end
section
variable {K : PySem.W.Frag} {H : Hp}
theorem DqAll.length : ∀ {vs : List V} {ds : List PyData}, DqAll K H vs ds → vs.length = ds.length
  | _, _, .nil => rfl
  | _, _, .cons _ t => by rw [List.length_cons, List.length_cons, DqAll.length t]
theorem DqAll.get : ∀ {vs : List V} {ds : List PyData} {i : Nat} {v : V}, DqAll K H vs ds → vs[i]? = some v → ∃ d, ds[i]? = some d ∧ Dq K H v d
  | _, _, _, _, .nil, e => by simp at e
  | _, _, 0, v, .cons h _, e => by
    simp only [List.getElem?_cons_zero, Option.some.injEq] at e
    exact ⟨_, rfl, e ▸ h⟩
  | _, _, i + 1, v, .cons _ t, e => by
    obtain ⟨d, h1, h2⟩ := DqAll.get (i := i) t (by simpa using e)
    exact ⟨d, by simpa using h1, h2⟩
theorem DqAll.getd : ∀ {vs : List V} {ds : List PyData} {i : Nat} {d : PyData}, DqAll K H vs ds → ds[i]? = some d → ∃ v, vs[i]? = some v ∧ Dq K H v d
  | _, _, _, _, .nil, e => by simp at e
  | _, _, 0, d, .cons h _, e => by
    simp only [List.getElem?_cons_zero, Option.some.injEq] at e
    exact ⟨_, rfl, e ▸ h⟩
  | _, _, i + 1, d, .cons _ t, e => by
    obtain ⟨v, h1, h2⟩ := DqAll.getd (i := i) t (by simpa using e)
    exact ⟨v, by simpa using h1, h2⟩
theorem DqAll.snoc : ∀ {vs : List V} {ds : List PyData} {v : V} {d : PyData}, DqAll K H vs ds → Dq K H v d → DqAll K H (vs ++ [v]) (ds ++ [d])
  | _, _, _, _, .nil, h => .cons h .nil
  | _, _, _, _, .cons h t, h2 => .cons h (DqAll.snoc t h2)
theorem DqAll.ints : ∀ {ns : List Int}, DqAll K H (ns.map V.int) (ns.map PyData.int)
  | [] => .nil
  | n :: ns => .cons (.int n) DqAll.ints
theorem DqAll.ints_eq : ∀ {ns : List Int} {vs : List V}, DqAll K H vs (ns.map PyData.int) → vs = ns.map V.int
  | [], _, h => by cases h; rfl
  | n :: ns, _, h => by
    cases h with
    | cons h1 h2 =>
      cases h1
      rw [DqAll.ints_eq h2]
      rfl
end

/-! ### the law's box of draws -/
def BoxAt (H : Hp) (b : Addr) (c : Nat) : Prop := ∃ x y z : Int, H b = some (.lst [.int x, .int y, .int z]) ∧ 0 ≤ x ∧ 0 ≤ y ∧ y < 2 ^ 62 ∧ 0 ≤ z ∧ z ≤ (c : Int)
theorem BoxAt.mono {H : Hp} {b : Addr} {c d : Nat} (h : BoxAt H b c) (hc : c ≤ d) : BoxAt H b d := by
  obtain ⟨x, y, z, h1, h2, h3, h4, h5, h6⟩ := h
  exact ⟨x, y, z, h1, h2, h3, h4, h5, by omega⟩
theorem BoxAt.ex {H H' : Hp} {b : Addr} {c : Nat} (e : Ex H H') (h : BoxAt H b c) : BoxAt H' b c := by
  obtain ⟨x, y, z, h1, r⟩ := h
  exact ⟨x, y, z, e _ _ h1, r⟩
theorem BoxAt.upd {H : Hp} {b p : Addr} {c : Nat} {o : HO} (h : BoxAt H b c) (n : b ≠ p) : BoxAt (upd H p o) b c := by
  obtain ⟨x, y, z, h1, r⟩ := h
  exact ⟨x, y, z, by rw [upd_ne n]; exact h1, r⟩
theorem BoxAt.some {H : Hp} {b : Addr} {c : Nat} (h : BoxAt H b c) : ∃ o, H b = some o := by
  obtain ⟨x, y, z, h1, _⟩ := h
  exact ⟨_, h1⟩
theorem BoxAt.ne {H : Hp} {b p : Addr} {c : Nat} (h : BoxAt H b c) (n : H p = none) : b ≠ p := by
  obtain ⟨o, e⟩ := h.some
  exact ne_of_none e n
/-- what drawing does: the box alone is otherwise -/
structure Bx (b : Addr) (c : Nat) (H H' : Hp) : Prop where
  x : Xs [b] H H'
  at_ : BoxAt H' b c
theorem Bx.trans {b : Addr} {c d : Nat} {H H1 H2 : Hp} (h1 : Bx b c H H1) (h2 : Bx b d H1 H2) : Bx b d H H2 := ⟨h1.x.trans h2.x, h2.at_⟩
theorem Bx.refl {b : Addr} {c : Nat} {H : Hp} (h : BoxAt H b c) : Bx b c H H := ⟨Xs.refl, h⟩
theorem Bx.mono {b : Addr} {c d : Nat} {H H' : Hp} (h : Bx b c H H') (hc : c ≤ d) : Bx b d H H' := ⟨h.x, h.at_.mono hc⟩
theorem Bx.ext {b : Addr} {c : Nat} {H H1 H2 : Hp} (h : Bx b c H H1) (e : Ex H1 H2) : Bx b c H H2 := ⟨h.x.trans (Xs.of e), h.at_.ex e⟩
theorem Bx.pre {b : Addr} {c : Nat} {H H1 H2 : Hp} (e : Ex H H1) (h : Bx b c H1 H2) : Bx b c H H2 := ⟨(Xs.of e).trans h.x, h.at_⟩
theorem Bx.free {b p : Addr} {c : Nat} {H H' : Hp} (h : Bx b c H H') (n : H' p = none) : H p = none := by
  cases e : H p with
  | none => rfl
  | some o =>
    by_cases m : p = b
    · subst m
      obtain ⟨u, e2⟩ := h.at_.some
      rw [e2] at n
      cases n
    · rw [h.x p o (fun q => m (List.mem_singleton.mp q)) e] at n
      cases n
theorem Bx.at {b p : Addr} {c : Nat} {H H' : Hp} {o : HO} (h : Bx b c H H') (n : p ≠ b) (e : H p = some o) : H' p = some o := h.x p o (fun q => n (List.mem_singleton.mp q)) e

/-! ### a def of the text -/
structure Dfn (K : PySem.W.Frag) (mg : Str → Option Value) (x : Str) (st : Stmt) (ps : List Str) (f : Addr) (fd : FuncData) : Prop where
  F : Fun K x x st f fd
  g : mg x = some (.ref f)
  b : Binds K fd ps []
end Pw

/-! ## PwWeb -/
namespace Pw
open PySem L2 Evl PySem.W

/-! ### webs -/
abbrev Tie := Int × Int × Int
def tieD (t : Tie) : PyData := .tuple [.int t.1, .int t.2.1, .int t.2.2]
def webD (n : Int) (ts : List Tie) : PyData := .tuple [.int n, .tuple (ts.map tieD)]
def pairLt (s t : Tie) : Prop := s.1 < t.1 ∨ s.1 = t.1 ∧ s.2.1 < t.2.1
structure WebOk (n : Int) (ts : List Tie) : Prop where
  pos : 1 ≤ n
  tie : ∀ t ∈ ts, 0 ≤ t.1 ∧ t.1 < t.2.1 ∧ t.2.1 < n ∧ 1 ≤ t.2.2 ∧ t.2.2 ≤ t.2.2
  rise : ts.Pairwise pairLt
  len : ts.length ≤ 100

/-! ### the order of tuples of ints -/
theorem leTI_eq (b c : Addr × List Int) : leTI b c = decide (b.2 ≤ c.2) := by
  show (!dataLt (.tuple (c.2.map .int)) (.tuple (b.2.map .int))) = _
  rw [dataLt_tuple]
  show (!rowLt (c.2.map .int) (b.2.map .int)) = _
  rw [dataLt_ints]
  by_cases h : c.2 < b.2
  · have h' : ¬ b.2 ≤ c.2 := fun r => List.not_lt.mpr r h
    simp [h, h']
  · have h' : b.2 ≤ c.2 := List.not_lt.mp h
    simp [h, h']
theorem sortTI_perm (bs : List (Addr × List Int)) : (bs.mergeSort leTI).Perm bs := List.mergeSort_perm _ _
theorem sortTI_le (bs : List (Addr × List Int)) : (bs.mergeSort leTI).Pairwise (fun b c => b.2 ≤ c.2) := by
  refine (List.pairwise_mergeSort (le := leTI) (fun a b c h1 h2 => ?_) (fun a b => ?_) bs).imp fun {a b} h => ?_
  · rw [leTI_eq] at h1 h2 ⊢
    exact decide_eq_true (List.le_trans (of_decide_eq_true h1) (of_decide_eq_true h2))
  · rw [leTI_eq, leTI_eq, Bool.or_eq_true]
    rcases List.le_total a.2 b.2 with h | h
    · exact .inl (decide_eq_true h)
    · exact .inr (decide_eq_true h)
  · rw [leTI_eq] at h
    exact of_decide_eq_true h
theorem pair_le {a b c d : Int} (h : [a, b] ≤ [c, d]) : a < c ∨ a = c ∧ b ≤ d := by
  have h2 : ¬ [c, d] < [a, b] := List.not_lt.mpr h
  rw [List.cons_lt_cons_iff, List.cons_lt_cons_iff] at h2
  simp at h2
  omega

/-! ### ties in a dict -/
def kPair (a b : Int) : List Key := [.inl a, .inl b]
def TieKvs (n : Int) (kvs : List (List Key × V)) : Prop := (∀ p ∈ kvs, ∃ a b w : Int, p = (kPair a b, .int w) ∧ 0 ≤ a ∧ a < b ∧ b < n ∧ 1 ≤ w ∧ w ≤ w) ∧ (kvs.map (·.1)).Nodup
theorem TieKvs.nil {n : Int} : TieKvs n [] := ⟨(fun p h => by cases h), List.nodup_nil⟩
theorem putK_mem {κ : Type} [DecidableEq κ] {kvs : List (κ × V)} {k : κ} {v : V} {p : κ × V} (h : p ∈ putK kvs k v) : p ∈ kvs ∨ p = (k, v) := by
  unfold putK at h
  by_cases a : (kvs.any fun kv => decide (kv.1 = k)) = true
  · rw [if_pos a] at h
    obtain ⟨q, hq, rfl⟩ := List.mem_map.mp h
    by_cases e : q.1 = k
    · rw [if_pos e, e]; exact .inr rfl
    · rw [if_neg e]; exact .inl hq
  · rw [if_neg a] at h
    rcases List.mem_append.mp h with h | h
    · exact .inl h
    · exact .inr (List.mem_singleton.mp h)
theorem putK_keys {κ : Type} [DecidableEq κ] {kvs : List (κ × V)} {k : κ} {v : V} (h : (kvs.map (·.1)).Nodup) : ((putK kvs k v).map (·.1)).Nodup := by
  by_cases a : (kvs.any fun kv => decide (kv.1 = k)) = true
  · have e : (putK kvs k v).map (·.1) = kvs.map (·.1) := by
      unfold putK
      rw [if_pos a, List.map_map]
      refine List.map_congr_left fun q _ => ?_
      show (if q.1 = k then (q.1, v) else q).1 = q.1
      by_cases e : q.1 = k
      · rw [if_pos e]
      · rw [if_neg e]
    rw [e]
    exact h
  · rw [valV_any] at a
    exact nd_putK v h (by simpa using a)
theorem TieKvs.put {n a b w : Int} {kvs : List (List Key × V)} (h : TieKvs n kvs) (h1 : 0 ≤ a) (h2 : a < b) (h3 : b < n) (h4 : 1 ≤ w) (h5 : w ≤ w) : TieKvs n (putK kvs (kPair a b) (.int w)) :=
  ⟨fun p hp => (putK_mem hp).elim (h.1 p) fun e => ⟨a, b, w, e, h1, h2, h3, h4, h5⟩, putK_keys h.2⟩
theorem valV_mem {κ : Type} [DecidableEq κ] : ∀ {kvs : List (κ × V)} {p : κ × V}, (kvs.map (·.1)).Nodup → p ∈ kvs → valV kvs p.1 = some p.2
  | [], _, _, h => by cases h
  | q :: r, p, hn, h => by
    rw [List.map_cons, List.nodup_cons] at hn
    rcases List.mem_cons.mp h with rfl | h
    · exact valV_pos rfl
    · rw [valV_neg (fun e => hn.1 (by rw [e]; exact List.mem_map.mpr ⟨p, h, rfl⟩))]
      exact valV_mem hn.2 h
/-- the keys of such a dict as lists of ints -/
theorem TieKvs.keys : ∀ {n : Int} {kvs : List (List Key × V)}, (∀ p ∈ kvs, ∃ a b w : Int, p = (kPair a b, .int w) ∧ 0 ≤ a ∧ a < b ∧ b < n ∧ 1 ≤ w ∧ w ≤ w) →
    ∃ ks : List (List Int), kvs.map (·.1) = ks.map (·.map Sum.inl) ∧ ks.length = kvs.length ∧ ∀ k ∈ ks, ∃ a b, k = [a, b]
  | _, [], _ => ⟨[], rfl, rfl, fun k h => by cases h⟩
  | n, p :: r, h => by
    obtain ⟨ks, h1, h2, h3⟩ := TieKvs.keys (n := n) (kvs := r) fun q hq => h q (List.mem_cons_of_mem _ hq)
    obtain ⟨a, b, w, rfl, _⟩ := h p List.mem_cons_self
    refine ⟨[a, b] :: ks, ?_, by rw [List.length_cons, List.length_cons, h2], fun k hk => ?_⟩
    · rw [List.map_cons, List.map_cons, h1]
      rfl
    · rcases List.mem_cons.mp hk with rfl | hk
      · exact ⟨a, b, rfl⟩
      · exact h3 k hk
/-- the tie of a key -/
def tieOf (kvs : List (List Key × V)) (k : List Int) : Tie := (k.getD 0 0, k.getD 1 0, match valV kvs (k.map Sum.inl) with | some (.int w) => w | _ => 0)
theorem TieKvs.at {n : Int} {kvs : List (List Key × V)} {ks : List (List Int)} (h : TieKvs n kvs) (e : kvs.map (·.1) = ks.map (·.map Sum.inl)) {k : List Int} (hk : k ∈ ks) :
    ∃ a b w : Int, k = [a, b] ∧ valV kvs (k.map Sum.inl) = some (.int w) ∧ tieOf kvs k = (a, b, w) ∧ 0 ≤ a ∧ a < b ∧ b < n ∧ 1 ≤ w ∧ w ≤ w := by
  have h1 : k.map Sum.inl ∈ kvs.map (·.1) := by rw [e]; exact List.mem_map.mpr ⟨k, hk, rfl⟩
  obtain ⟨p, hp, e1⟩ := List.mem_map.mp h1
  obtain ⟨a, b, w, rfl, r⟩ := h.1 p hp
  have e2 : k = [a, b] := by
    have e3 : kPair a b = k.map Sum.inl := e1
    unfold kPair at e3
    match k, e3 with
    | [x, y], e3 =>
      simp only [List.map_cons, List.map_nil, List.cons.injEq, Sum.inl.injEq] at e3
      rw [e3.1, e3.2.1]
  have e4 : valV kvs (k.map Sum.inl) = some (.int w) := by
    rw [← e1]
    exact valV_mem h.2 hp
  refine ⟨a, b, w, e2, e4, ?_, r⟩
  unfold tieOf
  rw [e4, e2]
  rfl
theorem nodup_of_map {α β : Type} (f : α → β) : ∀ {l : List α}, (l.map f).Nodup → l.Nodup
  | [], _ => List.nodup_nil
  | a :: r, h => by
    rw [List.map_cons, List.nodup_cons] at h
    exact List.nodup_cons.mpr ⟨fun m => h.1 (List.mem_map.mpr ⟨a, m, rfl⟩), nodup_of_map f h.2⟩
/-- the sorted ties of a dict are a web's -/
theorem web_of {n : Int} {kvs : List (List Key × V)} {bs : List (Addr × List Int)} (hn : 1 ≤ n) (h : TieKvs n kvs) (e : kvs.map (·.1) = (bs.map (·.2)).map (·.map Sum.inl)) (hl : kvs.length ≤ 100) :
    WebOk n ((bs.mergeSort leTI).map fun b => tieOf kvs b.2) := by
  have hm : ∀ {b : Addr × List Int}, b ∈ bs.mergeSort leTI → b.2 ∈ bs.map (·.2) := fun {b} hb => List.mem_map.mpr ⟨b, (sortTI_perm bs).mem_iff.mp hb, rfl⟩
  have hnd : (bs.map (·.2)).Nodup := by
    have h2 := h.2
    rw [e] at h2
    exact nodup_of_map _ h2
  have hnd2 : ((bs.mergeSort leTI).map (·.2)).Nodup := ((sortTI_perm bs).map (·.2)).nodup_iff.mpr hnd
  refine ⟨hn, fun t ht => ?_, ?_, ?_⟩
  · obtain ⟨b, hb, rfl⟩ := List.mem_map.mp ht
    obtain ⟨a, b', w, e1, e2, e3, r⟩ := h.at e (hm hb)
    rw [e3]
    exact r
  · rw [List.pairwise_map]
    have p1 := sortTI_le bs
    have p2 : (bs.mergeSort leTI).Pairwise (fun b c => b.2 ≠ c.2) := by
      exact List.pairwise_map.mp hnd2
    refine ((p1.and p2).imp_of_mem fun {b c} hb hc ⟨q1, q2⟩ => ?_)
    obtain ⟨x, y, w, e1, _, e3, _⟩ := h.at e (hm hb)
    obtain ⟨x', y', w', e1', _, e3', _⟩ := h.at e (hm hc)
    rw [e3, e3']
    rw [e1, e1'] at q1 q2
    have q3 := pair_le q1
    unfold pairLt
    show x < x' ∨ x = x' ∧ y < y'
    have q4 : ¬ (x = x' ∧ y = y') := fun z => q2 (by rw [z.1, z.2])
    omega
  · have e5 := congrArg List.length e
    simp only [List.length_map] at e5
    rw [List.length_map, List.length_mergeSort]
    omega

/-! ### new data -/
theorem Dq.newTup {K : PySem.W.Frag} {H : Hp} {S : List Addr} {p : Addr} {vs : List V} {ds : List PyData} (hp : H p = none) (hS : p ∉ S) (h : DqAll K (mi H S) vs ds) : Dq K (mi (upd H p (.tup vs)) S) (.ref p) (.tuple ds) := by
  refine .tup (by rw [mi_at hS]; exact upd_same) (DqAll.mono (ex_mi ?_ fun a m => mi_no m) h)
  exact mi_ex.trans (Ex.new hp)
theorem Dq.newLst {K : PySem.W.Frag} {H : Hp} {S : List Addr} {p : Addr} {vs : List V} {ds : List PyData} (hp : H p = none) (hS : p ∉ S) (h : DqAll K (mi H S) vs ds) : Dq K (mi (upd H p (.lst vs)) S) (.ref p) (.list ds) := by
  refine .lst (sq_of (by rw [mi_at hS]; exact upd_same)) (DqAll.mono (ex_mi ?_ fun a m => mi_no m) h)
  exact mi_ex.trans (Ex.new hp)
theorem Bx.own {b d : Addr} {c : Nat} {H H' : Hp} {o : HO} (h : Bx b c H H') (n : H d = none) (nb : b ≠ d) : Bx b c H (upd H' d o) := by
  refine ⟨fun a u m e => ?_, h.at_.upd nb⟩
  rw [upd_ne (ne_of_none e n)]
  exact h.x a u m e
theorem Bx.new {b p : Addr} {c : Nat} {H H' : Hp} {o : HO} (h : Bx b c H H') (n : H' p = none) : Bx b c H (upd H' p o) := h.ext (Ex.new n)
theorem ex_mim {H H' : Hp} {S : List Addr} (e : Ex H H') : Ex (mi H S) (mi H' S) := ex_mi (mi_ex.trans e) fun a m => mi_no m
theorem ex_miw {H : Hp} {S T : List Addr} (h : ∀ a ∈ S, a ∈ T) : Ex (mi H T) (mi H S) := ex_mi mi_ex fun a m => mi_no (h a m)
end Pw

/-! ## PwEv -/
namespace Pw
open PySem L2 Evl

/-! ### worlds: what is told and stays (B), what is one's own and may change (S) -/
structure Wd (S : List Addr) (B H : Hp) : Prop where
  ex : Ex B H
  no : ∀ s ∈ S, B s = none
  at_ : ∀ s ∈ S, ∃ o, H s = some o
section
variable {S T : List Addr} {B B' H H' : Hp} {p l : Addr} {o : HO}
theorem Wd.ext (w : Wd S B H) (e : Ex H H') : Wd S B H' := ⟨w.ex.trans e, w.no, fun s m => by
  obtain ⟨o, h⟩ := w.at_ s m
  exact ⟨o, e _ _ h⟩⟩
theorem Wd.fresh (w : Wd S B H) (h : H p = none) : B p = none := fresh_back w.ex h
theorem Wd.nin (w : Wd S B H) (h : H p = none) : p ∉ S := fun m => by
  obtain ⟨o, e⟩ := w.at_ p m
  rw [h] at e
  cases e
theorem Wd.new (w : Wd S B H) (h : H p = none) : Wd S (upd B p o) (upd H p o) := by
  refine ⟨fun a u e => ?_, fun s m => ?_, fun s m => ?_⟩
  · by_cases q : a = p
    · subst q
      rw [upd_same] at e ⊢
      exact e
    · rw [upd_ne q] at e ⊢
      exact w.ex a u e
  · rw [upd_ne (fun q => w.nin h (by rw [← q]; exact m))]
    exact w.no s m
  · rw [upd_ne (fun q => w.nin h (by rw [← q]; exact m))]
    exact w.at_ s m
theorem Wd.newE (w : Wd S B H) (h : H p = none) : Ex B (upd B p o) := Ex.new (w.fresh h)
theorem Wd.own (w : Wd S B H) (h : H p = none) : Wd (p :: S) B (upd H p o) := by
  refine ⟨ex_upd w.ex (w.fresh h), fun s m => ?_, fun s m => ?_⟩
  · rcases List.mem_cons.mp m with rfl | m
    · exact w.fresh h
    · exact w.no s m
  · rcases List.mem_cons.mp m with rfl | m
    · exact ⟨_, upd_same⟩
    · rw [upd_ne (fun q => w.nin h (by rw [← q]; exact m))]
      exact w.at_ s m
theorem Wd.put (w : Wd S B H) (h : p ∈ S) : Wd S B (upd H p o) := by
  refine ⟨ex_upd w.ex (w.no p h), w.no, fun s m => ?_⟩
  by_cases q : s = p
  · rw [q]; exact ⟨_, upd_same⟩
  · rw [upd_ne q]; exact w.at_ s m
theorem Wd.weak (w : Wd S B H) (h : ∀ a ∈ T, a ∈ S) : Wd T B H := ⟨w.ex, fun s m => w.no s (h s m), fun s m => w.at_ s (h s m)⟩
theorem Wd.tail (w : Wd (l :: S) B H) : Wd S B H := w.weak fun a m => List.mem_cons_of_mem _ m
theorem Wd.back (w : Wd S B H) (e : Ex B' B) : Wd S B' H := ⟨e.trans w.ex, fun s m => fresh_back e (w.no s m), w.at_⟩
theorem Wd.give (w : Wd (l :: S) B H) (h : H l = some o) (n : l ∉ S) : Wd S (upd B l o) H := by
  refine ⟨fun a u e => ?_, fun s m => ?_, fun s m => w.at_ s (List.mem_cons_of_mem _ m)⟩
  · by_cases q : a = l
    · subst q
      rw [upd_same] at e
      rw [h]
      exact e
    · rw [upd_ne q] at e
      exact w.ex a u e
  · rw [upd_ne (fun q => n (by rw [← q]; exact m))]
    exact w.no s (List.mem_cons_of_mem _ m)
theorem Wd.giveE (w : Wd (l :: S) B H) : Ex B (upd B l o) := Ex.new (w.no l List.mem_cons_self)
end

theorem Wd.step {S : List Addr} {B H H' : Hp} (w : Wd S B H) (e : Ex H H') : Wd S (mi H' S) H' := ⟨mi_ex, fun s m => mi_no m, fun s m => (w.ext e).at_ s m⟩
theorem Wd.stepE {S : List Addr} {B H H' : Hp} (w : Wd S B H) (e : Ex H H') : Ex B (mi H' S) := ex_mi (w.ex.trans e) w.no

/-! ### what evaluates to what, made of what is told -/
def EvR (te : TE) (σ : L2.St) (B : Hp) (R : V → Hp → Prop) : Prop := ∀ S H, Wd S B H → ∀ Q : VK, (∀ v H', Ex H H' → R v (mi H' S) → Q v H') → te σ H Q
abbrev EvD (K : PySem.W.Frag) (te : TE) (σ : L2.St) (B : Hp) (d : PyData) : Prop := EvR te σ B fun v B' => Dq K B' v d
abbrev EvV (te : TE) (σ : L2.St) (B : Hp) (v : V) : Prop := EvR te σ B fun v' _ => v' = v
def EvB (tt : TT) (σ : L2.St) (B : Hp) (b : Bool) : Prop := ∀ S H, Wd S B H → ∀ Q : Bool → Hp → Prop, (∀ H', Ex H H' → Q b H') → tt σ H Q
def EvAR (ta : TA) (σ : L2.St) (B : Hp) (R : List V → Hp → Prop) : Prop := ∀ S H, Wd S B H → ∀ Q : List V → Hp → Prop, (∀ vs H', Ex H H' → R vs (mi H' S) → Q vs H') → ta σ H Q
abbrev EvAD (K : PySem.W.Frag) (ta : TA) (σ : L2.St) (B : Hp) (ds : List PyData) : Prop := EvAR ta σ B fun vs B' => DqAll K B' vs ds
/-- a relation that stays -/
def Stays {α : Type} (R : α → Hp → Prop) : Prop := ∀ v B B', Ex B B' → R v B → R v B'
theorem stays_dp {K : PySem.W.Frag} {d : PyData} : Stays fun v B => Dq K B v d := fun v B B' e h => Dq.mono e h
theorem stays_dps {K : PySem.W.Frag} {ds : List PyData} : Stays fun vs B => DqAll K B vs ds := fun v B B' e h => DqAll.mono e h
theorem stays_eq {u : V} : Stays fun v (_ : Hp) => v = u := fun _ _ _ _ h => h

section
variable {K : PySem.W.Frag} {σ : L2.St} {B B' H : Hp} {S : List Addr} {te ta tb : TE} {tt tu : TT} {tA : TA} {d d' : PyData} {ds : List PyData} {v : V} {R R' R1 R2' : V → Hp → Prop} {b c : Bool}
theorem EvR.mono (e : Ex B B') (h : EvR te σ B R) : EvR te σ B' R := fun S H w Q q => h S H (w.back e) Q q
theorem EvB.mono (e : Ex B B') (h : EvB tt σ B b) : EvB tt σ B' b := fun S H w Q q => h S H (w.back e) Q q
theorem EvAR.mono {R : List V → Hp → Prop} (e : Ex B B') (h : EvAR tA σ B R) : EvAR tA σ B' R := fun S H w Q q => h S H (w.back e) Q q
theorem EvR.imp (h : EvR te σ B R) (i : ∀ v B', R v B' → R' v B') : EvR te σ B R' := fun S H w Q q => h S H w Q fun v H' e r => q v H' e (i _ _ r)
/-- in sequence -/
theorem EvR.bind (h : EvR te σ B R) {Q : VK} (w : Wd S B H) (k : ∀ v B' H', Ex H H' → Ex B B' → Wd S B' H' → R v B' → Q v H') : te σ H Q :=
  h S H w Q fun v H' e r => k v _ H' e (w.stepE e) (w.step e) r
theorem EvB.bind (h : EvB tt σ B b) {Q : Bool → Hp → Prop} (w : Wd S B H) (k : ∀ B' H', Ex H H' → Ex B B' → Wd S B' H' → Q b H') : tt σ H Q :=
  h S H w Q fun H' e => k _ H' e (w.stepE e) (w.step e)
theorem EvAR.bind {R : List V → Hp → Prop} (h : EvAR tA σ B R) {Q : List V → Hp → Prop} (w : Wd S B H) (k : ∀ vs B' H', Ex H H' → Ex B B' → Wd S B' H' → R vs B' → Q vs H') : tA σ H Q :=
  h S H w Q fun v H' e r => k v _ H' e (w.stepE e) (w.step e) r
theorem evR_of (h : ∀ S H, Wd S B H → ∀ Q : VK, (∀ v B' H', Ex H H' → Ex B B' → Wd S B' H' → R v B' → Q v H') → te σ H Q) (st : Stays R) : EvR te σ B R := fun S H w Q q =>
  h S H w Q fun v B' H' e eB w' r => q v H' e (st _ _ _ (ex_mi w'.ex w'.no) r)
theorem evB_of (h : ∀ S H, Wd S B H → ∀ Q : Bool → Hp → Prop, (∀ B' H', Ex H H' → Ex B B' → Wd S B' H' → Q b H') → tt σ H Q) : EvB tt σ B b := fun S H w Q q => h S H w Q fun B' H' e _ _ => q H' e

/-! #### names, constants, numbers -/
theorem ev_var {i : Nat} (h : σ[i]? = some (some v)) (hd : Dq K B v d) : EvD K (tVar i) σ B d := evR_of (fun S H w Q q => ⟨v, h, q v B H (Ex.refl H) (Ex.refl B) w hd⟩) stays_dp
theorem ev_varV {i : Nat} (h : σ[i]? = some (some v)) : EvV (tVar i) σ B v := evR_of (fun S H w Q q => ⟨v, h, q v B H (Ex.refl H) (Ex.refl B) w rfl⟩) stays_eq
theorem ev_c (hd : Dq K B v d) : EvD K (tC v) σ B d := evR_of (fun S H w Q q => q v B H (Ex.refl H) (Ex.refl B) w hd) stays_dp
theorem ev_int {i : Int} : EvD K (tC (.int i)) σ B (.int i) := ev_c (.int i)
theorem ev_bl : EvD K (tC (.bl b)) σ B (.bool b) := ev_c (.bl b)
theorem ev_non : EvD K (tC .non) σ B .none := ev_c .non
theorem ev_str {x : Str} : EvD K (tC (.str x)) σ B (.str x) := ev_c (.str x)
/-- an operator by values that makes no object -/
theorem ev_op {r : R2} (ha : EvD K ta σ B d) (hb : EvD K tb σ B d') (hr : ∀ x y B' H' (Q : VK), Dq K B' x d → Dq K B' y d' → Ex B' H' → (∀ v, R v B' → Q v H') → r x y H' Q) (st : Stays R) : EvR (tOp r ta tb) σ B R :=
  evR_of (fun S H w Q q => ha.bind w fun x B1 H1 e1 eB1 w1 rx => (hb.mono eB1).bind w1 fun y B2 H2 e2 eB2 w2 ry =>
    hr x y B2 H2 Q (Dq.mono eB2 rx) ry w2.ex fun v rv => q v B2 H2 (e1.trans e2) (eB1.trans eB2) w2 rv) st
theorem ev_I0 {g : Int → Int → V} {i j : Int} (ha : EvD K ta σ B (.int i)) (hb : EvD K tb σ B (.int j)) (hd : ∀ B', Dq K B' (g i j) d) : EvD K (tOp (rI0 g) ta tb) σ B d :=
  ev_op ha hb (fun x y B' H' Q hx hy _ q => by cases hx; cases hy; exact ⟨i, j, rfl, rfl, q _ (hd _)⟩) stays_dp
theorem ev_I {C : Int → Int → Prop} {g : Int → Int → V} {i j : Int} (ha : EvD K ta σ B (.int i)) (hb : EvD K tb σ B (.int j)) (hc : C i j) (hd : ∀ B', Dq K B' (g i j) d) : EvD K (tOp (rI C g) ta tb) σ B d :=
  ev_op ha hb (fun x y B' H' Q hx hy _ q => by cases hx; cases hy; exact ⟨i, j, rfl, rfl, hc, q _ (hd _)⟩) stays_dp
theorem ev_add {i j : Int} (ha : EvD K ta σ B (.int i)) (hb : EvD K tb σ B (.int j)) : EvD K (tOp (rI0 fun i j => .int (i + j)) ta tb) σ B (.int (i + j)) := ev_I0 ha hb fun _ => .int _
theorem ev_sub {i j : Int} (ha : EvD K ta σ B (.int i)) (hb : EvD K tb σ B (.int j)) : EvD K (tOp (rI0 fun i j => .int (i - j)) ta tb) σ B (.int (i - j)) := ev_I0 ha hb fun _ => .int _
theorem ev_mul {i j : Int} (ha : EvD K ta σ B (.int i)) (hb : EvD K tb σ B (.int j)) (hc : CMul i j) : EvD K (tOp (rI CMul fun i j => .int (i * j)) ta tb) σ B (.int (i * j)) := ev_I ha hb hc fun _ => .int _
theorem ev_mod {i j : Int} (ha : EvD K ta σ B (.int i)) (hb : EvD K tb σ B (.int j)) (hc : 0 < j) : EvD K (tOp (rI (fun _ j => 0 < j) fun i j => .int (i % j)) ta tb) σ B (.int (i % j)) := ev_I ha hb hc fun _ => .int _
theorem ev_div {C : Int → Int → Prop} {i j : Int} (ha : EvD K ta σ B (.int i)) (hb : EvD K tb σ B (.int j)) (hc : C i j) : EvD K (tOp (rI C fun i j => .int (i / j)) ta tb) σ B (.int (i / j)) := ev_I ha hb hc fun _ => .int _
theorem ev_cmp {g : Int → Int → Bool} {i j : Int} (ha : EvD K ta σ B (.int i)) (hb : EvD K tb σ B (.int j)) : EvD K (tOp (rI0 fun i j => .bl (g i j)) ta tb) σ B (.bool (g i j)) := ev_I0 ha hb fun _ => .bl _
theorem ev_neg {i : Int} (ha : EvD K ta σ B (.int i)) : EvD K (tUn (rU fun i => .int (-i)) ta) σ B (.int (-i)) :=
  evR_of (fun S H w Q q => ha.bind w fun x B1 H1 e1 eB1 w1 rx => by cases rx; exact ⟨i, rfl, q _ B1 H1 e1 eB1 w1 (.int _)⟩) stays_dp
theorem ev_eqI {i j : Int} (ha : EvD K ta σ B (.int i)) (hb : EvD K tb σ B (.int j)) : EvD K (tOp rEq ta tb) σ B (.bool (decide (i = j))) :=
  ev_op ha hb (fun x y B' H' Q hx hy _ q => by
    cases hx; cases hy
    refine ⟨rfl, ?_⟩
    have e : decide (V.int i = V.int j) = decide (i = j) := by simp
    rw [e]
    exact q _ (.bl _)) stays_dp
theorem ev_neI {i j : Int} (ha : EvD K ta σ B (.int i)) (hb : EvD K tb σ B (.int j)) : EvD K (tOp rNe ta tb) σ B (.bool (!decide (i = j))) :=
  ev_op ha hb (fun x y B' H' Q hx hy _ q => by
    cases hx; cases hy
    refine ⟨rfl, ?_⟩
    have e : decide (V.int i = V.int j) = decide (i = j) := by simp
    rw [e]
    exact q _ (.bl _)) stays_dp
theorem ev_eqB {i j : Bool} (ha : EvD K ta σ B (.bool i)) (hb : EvD K tb σ B (.bool j)) : EvD K (tOp rEq ta tb) σ B (.bool (i == j)) :=
  ev_op ha hb (fun x y B' H' Q hx hy _ q => by
    cases hx; cases hy
    refine ⟨rfl, ?_⟩
    have e : decide (V.bl i = V.bl j) = (i == j) := by cases i <;> cases j <;> rfl
    rw [e]
    exact q _ (.bl _)) stays_dp
theorem ev_neB {i j : Bool} (ha : EvD K ta σ B (.bool i)) (hb : EvD K tb σ B (.bool j)) : EvD K (tOp rNe ta tb) σ B (.bool (i != j)) :=
  ev_op ha hb (fun x y B' H' Q hx hy _ q => by
    cases hx; cases hy
    refine ⟨rfl, ?_⟩
    have e : (!decide (V.bl i = V.bl j)) = (i != j) := by cases i <;> cases j <;> rfl
    rw [e]
    exact q _ (.bl _)) stays_dp
theorem ev_is (h : EvD K te σ B d) (e : d = d') : EvD K te σ B d' := by rw [← e]; exact h

/-! #### tests -/
theorem eb_test (h : EvD K te σ B (.bool b)) : EvB (tTest te) σ B b := evB_of fun S H w Q q => h.bind w fun x B1 H1 e1 eB1 w1 rx => by cases rx; exact ⟨b, rfl, q B1 H1 e1 eB1 w1⟩
theorem eb_B (h : EvD K te σ B (.bool b)) : EvB (tB te) σ B b := evB_of fun S H w Q q => h.bind w fun x B1 H1 e1 eB1 w1 rx => by cases rx; exact ⟨b, rfl, q B1 H1 e1 eB1 w1⟩
theorem eb_not (h : EvB tt σ B b) : EvB (tNot tt) σ B (!b) := evB_of fun S H w Q q => h.bind w fun B1 H1 e1 eB1 w1 => q B1 H1 e1 eB1 w1
theorem eb_and (h : EvB tt σ B b) (h2 : b = true → EvB tu σ B c) : EvB (tAnd tt tu) σ B (b && c) := evB_of fun S H w Q q => h.bind w fun B1 H1 e1 eB1 w1 => by
  cases b with
  | true => exact ((h2 rfl).mono eB1).bind w1 fun B2 H2 e2 eB2 w2 => q B2 H2 (e1.trans e2) (eB1.trans eB2) w2
  | false => exact q B1 H1 e1 eB1 w1
theorem eb_or (h : EvB tt σ B b) (h2 : b = false → EvB tu σ B c) : EvB (tOr tt tu) σ B (b || c) := evB_of fun S H w Q q => h.bind w fun B1 H1 e1 eB1 w1 => by
  cases b with
  | false => exact ((h2 rfl).mono eB1).bind w1 fun B2 H2 e2 eB2 w2 => q B2 H2 (e1.trans e2) (eB1.trans eB2) w2
  | true => exact q B1 H1 e1 eB1 w1
theorem eb_yes : EvB tYes σ B true := fun S H w Q q => q H (Ex.refl H)
theorem eb_is (h : EvB tt σ B b) (e : b = c) : EvB tt σ B c := by rw [← e]; exact h
theorem ev_and (h : EvD K ta σ B (.bool b)) (h2 : b = true → EvD K tb σ B (.bool c)) : EvD K (tAndV ta tb) σ B (.bool (b && c)) := evR_of (fun S H w Q q => h.bind w fun x B1 H1 e1 eB1 w1 rx => by
  cases rx
  refine ⟨b, rfl, ?_⟩
  cases b with
  | true => exact ((h2 rfl).mono eB1).bind w1 fun y B2 H2 e2 eB2 w2 ry => q y B2 H2 (e1.trans e2) (eB1.trans eB2) w2 ry
  | false => exact q _ B1 H1 e1 eB1 w1 (.bl _)) stays_dp
theorem ev_or (h : EvD K ta σ B (.bool b)) (h2 : b = false → EvD K tb σ B (.bool c)) : EvD K (tOrV ta tb) σ B (.bool (b || c)) := evR_of (fun S H w Q q => h.bind w fun x B1 H1 e1 eB1 w1 rx => by
  cases rx
  refine ⟨b, rfl, ?_⟩
  cases b with
  | false => exact ((h2 rfl).mono eB1).bind w1 fun y B2 H2 e2 eB2 w2 ry => q y B2 H2 (e1.trans e2) (eB1.trans eB2) w2 ry
  | true => exact q _ B1 H1 e1 eB1 w1 (.bl _)) stays_dp
theorem ev_not (h : EvD K ta σ B (.bool b)) : EvD K (tNotV ta) σ B (.bool (!b)) := evR_of (fun S H w Q q => h.bind w fun x B1 H1 e1 eB1 w1 rx => by cases rx; exact ⟨b, rfl, q _ B1 H1 e1 eB1 w1 (.bl _)⟩) stays_dp
theorem ev_if (h : EvB tt σ B b) (h1 : b = true → EvR ta σ B R) (h2 : b = false → EvR tb σ B R) (st : Stays R) : EvR (tIf tt ta tb) σ B R := evR_of (fun S H w Q q => h.bind w fun B1 H1 e1 eB1 w1 => by
  cases b with
  | true => exact ((h1 rfl).mono eB1).bind w1 fun y B2 H2 e2 eB2 w2 ry => q y B2 H2 (e1.trans e2) (eB1.trans eB2) w2 ry
  | false => exact ((h2 rfl).mono eB1).bind w1 fun y B2 H2 e2 eB2 w2 ry => q y B2 H2 (e1.trans e2) (eB1.trans eB2) w2 ry) st

/-! #### arguments, new lists and tuples -/
theorem ea_nil : EvAD K tNil σ B [] := fun S H w Q q => q [] H (Ex.refl H) .nil
theorem ea_cons (h : EvD K ta σ B d) (hr : EvAD K tA σ B ds) : EvAD K (tCons ta tA) σ B (d :: ds) := fun S H w Q q => h.bind w fun x B1 H1 e1 eB1 w1 rx => (hr.mono eB1).bind w1 fun vs B2 H2 e2 eB2 w2 rs =>
  q (x :: vs) H2 (e1.trans e2) (.cons (Dq.mono (eB2.trans (ex_mi w2.ex w2.no)) rx) (DqAll.mono (ex_mi w2.ex w2.no) rs))
theorem ev_tup (h : EvAD K tA σ B ds) (hl : ds.length ≤ 100000) : EvD K (tTup tA) σ B (.tuple ds) := evR_of (fun S H w Q q => h.bind w fun vs B1 H1 e1 eB1 w1 rs =>
  ⟨sz_of (by rw [DqAll.length rs]; exact hl), fun p hp => q (.ref p) _ _ (e1.trans (Ex.new hp)) (eB1.trans (w1.newE (o := .tup vs) hp)) (w1.new hp) (.tup upd_same (DqAll.mono (w1.newE hp) rs))⟩) stays_dp
theorem ev_lst (h : EvAD K tA σ B ds) (hl : ds.length ≤ 100000) : EvD K (tLst tA) σ B (.list ds) := evR_of (fun S H w Q q => h.bind w fun vs B1 H1 e1 eB1 w1 rs =>
  ⟨sz_of (by rw [DqAll.length rs]; exact hl), fun p hp => q (.ref p) _ _ (e1.trans (Ex.new hp)) (eB1.trans (w1.newE (o := .lst vs) hp)) (w1.new hp) (.lst (sq_of upd_same) (DqAll.mono (w1.newE hp) rs))⟩) stays_dp
/-- a sequence: a list or a tuple -/
def seqD (tup : Bool) (ds : List PyData) : PyData := if tup then .tuple ds else .list ds
theorem Dq.seq {t : Bool} (h : Dq K B v (seqD t ds)) : ∃ a vs, v = .ref a ∧ (SqL K B a vs ∨ SqT K B a vs) ∧ DqAll K B vs ds ∧ (t = true → SqT K B a vs) ∧ (t = false → SqL K B a vs) := by
  cases t with
  | true =>
    cases (show Dq K B v (.tuple ds) from h) with
    | tup h1 h2 => exact ⟨_, _, rfl, .inr (st_of h1), h2, (fun _ => st_of h1), (fun z => by cases z)⟩
  | false =>
    cases (show Dq K B v (.list ds) from h) with
    | lst h1 h2 => exact ⟨_, _, rfl, .inl h1, h2, (fun z => by cases z), (fun _ => h1)⟩
theorem atI_dp {vs : List V} {i : Int} (h : DqAll K B vs ds) (ha : atI ds i = some d) : ∃ v, atI vs i = some v ∧ Dq K B v d := by
  unfold atI at ha ⊢
  rw [DqAll.length h]
  obtain ⟨j, h1, h2⟩ := Option.bind_eq_some_iff.mp ha
  rw [h1]
  obtain ⟨v, h3, h4⟩ := DqAll.getd h h2
  exact ⟨v, h3, h4⟩
/-- an item -/
theorem ev_ix {t : Bool} {i : Int} (ha : EvD K ta σ B (seqD t ds)) (hb : EvD K tb σ B (.int i)) (hi : atI ds i = some d) : EvD K (tOp (rIx K) ta tb) σ B d :=
  ev_op ha hb (fun x y B' H' Q hx hy e q => by
    cases hy
    obtain ⟨a, vs, rfl, hs, hd, _⟩ := Dq.seq hx
    obtain ⟨v, h1, h2⟩ := atI_dp hd hi
    rcases hs with hs | hs
    · exact .inl ⟨a, vs, i, v, rfl, rfl, ex_l e hs, h1, q v h2⟩
    · exact .inr (.inl ⟨a, vs, i, v, rfl, rfl, ex_t e hs, h1, q v h2⟩)) stays_dp
theorem ev_ixL {i : Int} (ha : EvD K ta σ B (.list ds)) (hb : EvD K tb σ B (.int i)) (hi : atI ds i = some d) : EvD K (tOp (rIxL K) ta tb) σ B d :=
  ev_op ha hb (fun x y B' H' Q hx hy e q => by
    cases hy
    cases hx with
    | lst hs hd =>
      obtain ⟨v, h1, h2⟩ := atI_dp hd hi
      exact ⟨_, _, i, v, rfl, rfl, ex_l e hs, h1, q v h2⟩) stays_dp
theorem ev_ixT {i : Int} (ha : EvD K ta σ B (.tuple ds)) (hb : EvD K tb σ B (.int i)) (hi : atI ds i = some d) : EvD K (tOp (rIxT K) ta tb) σ B d :=
  ev_op ha hb (fun x y B' H' Q hx hy e q => by
    cases hy
    cases hx with
    | tup hs hd =>
      obtain ⟨v, h1, h2⟩ := atI_dp hd hi
      exact ⟨_, _, i, v, rfl, rfl, st_of (e _ _ hs), h1, q v h2⟩) stays_dp
/-- a call by values, one argument, that makes no object -/
theorem ev_cb {r : List V → Hp → VK → Prop} (h : EvAD K tA σ B ds) (hr : ∀ vs B' H' (Q : VK), DqAll K B' vs ds → Ex B' H' → (∀ v, R v B' → Q v H') → r vs H' Q) (st : Stays R) : EvR (tCB r tA) σ B R :=
  evR_of (fun S H w Q q => h.bind w fun vs B1 H1 e1 eB1 w1 rs => hr vs B1 H1 Q rs w1.ex fun v rv => q v B1 H1 e1 eB1 w1 rv) st
/-- a call that makes a new list (tuple) of the values that it is told -/
theorem ev_cbL {r : List V → Hp → VK → Prop} {ds' : List PyData} (h : EvAD K tA σ B ds) (hr : ∀ vs B' H' (Q : VK), DqAll K B' vs ds → Ex B' H' → (∀ p xs, H' p = none → DqAll K B' xs ds' → Q (.ref p) (upd H' p (.lst xs))) → r vs H' Q) : EvD K (tCB r tA) σ B (.list ds') :=
  evR_of (fun S H w Q q => h.bind w fun vs B1 H1 e1 eB1 w1 rs => hr vs B1 H1 Q rs w1.ex fun p xs hp hx => q (.ref p) _ _ (e1.trans (Ex.new hp)) (eB1.trans (w1.newE (o := .lst xs) hp)) (w1.new hp) (.lst (sq_of upd_same) (DqAll.mono (w1.newE hp) hx))) stays_dp
theorem ev_cbT {r : List V → Hp → VK → Prop} {ds' : List PyData} (h : EvAD K tA σ B ds) (hr : ∀ vs B' H' (Q : VK), DqAll K B' vs ds → Ex B' H' → (∀ p xs, H' p = none → DqAll K B' xs ds' → Q (.ref p) (upd H' p (.tup xs))) → (∀ v, Dq K B' v (.tuple ds') → Q v H') → r vs H' Q) : EvD K (tCB r tA) σ B (.tuple ds') :=
  evR_of (fun S H w Q q => h.bind w fun vs B1 H1 e1 eB1 w1 rs => hr vs B1 H1 Q rs w1.ex (fun p xs hp hx => q (.ref p) _ _ (e1.trans (Ex.new hp)) (eB1.trans (w1.newE (o := .tup xs) hp)) (w1.new hp) (.tup upd_same (DqAll.mono (w1.newE hp) hx))) fun v hv => q v B1 H1 e1 eB1 w1 hv) stays_dp
def rLenS (K : PySem.W.Frag) : List V → Hp → VK → Prop := fun xs H Q => ∃ p ys, xs = [.ref p] ∧ (SqL K H p ys ∨ SqT K H p ys) ∧ Q (.int ys.length) H
theorem ev_len {t : Bool} (h : EvD K ta σ B (seqD t ds)) : EvD K (tCB (rLenS K) (tCons ta tNil)) σ B (.int (ds.length : Nat)) := ev_cb (ea_cons h ea_nil) (fun vs B' H' Q hv e q => by
  cases hv with
  | cons h1 h2 =>
    cases h2
    obtain ⟨a, xs, rfl, hs, hd, _⟩ := Dq.seq h1
    refine ⟨a, xs, rfl, hs.elim (fun h => .inl (ex_l e h)) (fun h => .inr (ex_t e h)), ?_⟩
    rw [DqAll.length hd]
    exact q _ (.int _)) stays_dp
def rListS (K : PySem.W.Frag) : List V → Hp → VK → Prop := fun xs H Q => ∃ p ys, xs = [.ref p] ∧ (SqL K H p ys ∨ SqT K H p ys) ∧ ∀ l, H l = none → Q (.ref l) (upd H l (.lst ys))
theorem ev_list {t : Bool} (h : EvD K ta σ B (seqD t ds)) : EvD K (tCB (rListS K) (tCons ta tNil)) σ B (.list ds) := ev_cbL (ea_cons h ea_nil) fun vs B' H' Q hv e q => by
  cases hv with
  | cons h1 h2 =>
    cases h2
    obtain ⟨a, xs, rfl, hs, hd, _⟩ := Dq.seq h1
    exact ⟨a, xs, rfl, hs.elim (fun h => .inl (ex_l e h)) (fun h => .inr (ex_t e h)), fun l hl => q l xs hl hd⟩
def rTupleS (K : PySem.W.Frag) : List V → Hp → VK → Prop := fun xs H Q => ∃ p ys, xs = [.ref p] ∧ ((SqL K H p ys ∧ ∀ l, H l = none → Q (.ref l) (upd H l (.tup ys))) ∨ (SqT K H p ys ∧ Q (.ref p) H))
theorem ev_tuple {t : Bool} (h : EvD K ta σ B (seqD t ds)) : EvD K (tCB (rTupleS K) (tCons ta tNil)) σ B (.tuple ds) := ev_cbT (ea_cons h ea_nil) fun vs B' H' Q hv e q q2 => by
  cases hv with
  | cons h1 h2 =>
    cases h2
    cases t with
    | true =>
      cases (show Dq K B' _ (.tuple ds) from h1) with
      | tup hs hd => exact ⟨_, _, rfl, .inr ⟨st_of (e _ _ hs), q2 _ (.tup hs hd)⟩⟩
    | false =>
      cases (show Dq K B' _ (.list ds) from h1) with
      | lst hs hd => exact ⟨_, _, rfl, .inl ⟨ex_l e hs, fun l hl => q l _ hl hd⟩⟩
theorem ev_sum {ns : List Int} (h : EvD K ta σ B (.list (ns.map .int))) : EvD K (tCB (rSum K) (tCons ta tNil)) σ B (.int ns.sum) := ev_cb (ea_cons h ea_nil) (fun vs B' H' Q hv e q => by
  cases hv with
  | cons h1 h2 =>
    cases h2
    cases h1 with
    | lst hs hd =>
      have e2 := DqAll.ints_eq hd
      subst e2
      exact ⟨_, ns, rfl, ex_l e hs, q _ (.int _)⟩) stays_dp
theorem DqAll.bools_eq : ∀ {bs : List Bool} {vs : List V}, DqAll K B vs (bs.map PyData.bool) → vs = bs.map V.bl
  | [], _, h => by cases h; rfl
  | b :: bs, _, h => by
    cases h with
    | cons h1 h2 =>
      cases h1
      rw [DqAll.bools_eq h2]
      rfl
theorem ev_all {bs : List Bool} (h : EvD K ta σ B (.list (bs.map .bool))) : EvD K (tCB (rAll K) (tCons ta tNil)) σ B (.bool (bs.all id)) := ev_cb (ea_cons h ea_nil) (fun vs B' H' Q hv e q => by
  cases hv with
  | cons h1 h2 =>
    cases h2
    cases h1 with
    | lst hs hd =>
      have e2 := DqAll.bools_eq hd
      subst e2
      exact ⟨_, bs, rfl, ex_l e hs, q _ (.bl _)⟩) stays_dp
theorem ev_any {bs : List Bool} (h : EvD K ta σ B (.list (bs.map .bool))) : EvD K (tCB (rAny K) (tCons ta tNil)) σ B (.bool (bs.any id)) := ev_cb (ea_cons h ea_nil) (fun vs B' H' Q hv e q => by
  cases hv with
  | cons h1 h2 =>
    cases h2
    cases h1 with
    | lst hs hd =>
      have e2 := DqAll.bools_eq hd
      subst e2
      exact ⟨_, bs, rfl, ex_l e hs, q _ (.bl _)⟩) stays_dp
def rInt1 : List V → Hp → VK → Prop := fun xs H Q => (∃ i, xs = [.int i] ∧ Q (.int i) H) ∨ ∃ k, xs = [.bl k] ∧ Q (.int (if k = true then 1 else 0)) H
theorem ev_intB (h : EvD K ta σ B (.bool b)) : EvD K (tCB rInt1 (tCons ta tNil)) σ B (.int (if b = true then 1 else 0)) := ev_cb (ea_cons h ea_nil) (fun vs B' H' Q hv e q => by
  cases hv with
  | cons h1 h2 =>
    cases h2
    cases h1
    exact .inr ⟨b, rfl, q _ (.int _)⟩) stays_dp
def rAbs1 : List V → Hp → VK → Prop := fun xs H Q => ∃ i, xs = [.int i] ∧ Q (.int (if i < 0 then -i else i)) H
theorem ev_abs {i : Int} (h : EvD K ta σ B (.int i)) : EvD K (tCB rAbs1 (tCons ta tNil)) σ B (.int (if i < 0 then -i else i)) := ev_cb (ea_cons h ea_nil) (fun vs B' H' Q hv e q => by
  cases hv with
  | cons h1 h2 =>
    cases h2
    cases h1
    exact ⟨i, rfl, q _ (.int _)⟩) stays_dp
def rMin2 : List V → Hp → VK → Prop := fun xs H Q => ∃ i j, xs = [.int i, .int j] ∧ Q (.int (if j < i then j else i)) H
def rMax2 : List V → Hp → VK → Prop := fun xs H Q => ∃ i j, xs = [.int i, .int j] ∧ Q (.int (if j > i then j else i)) H
theorem ev_min2 {i j : Int} (ha : EvD K ta σ B (.int i)) (hb : EvD K tb σ B (.int j)) : EvD K (tCB rMin2 (tCons ta (tCons tb tNil))) σ B (.int (if j < i then j else i)) := ev_cb (ea_cons ha (ea_cons hb ea_nil)) (fun vs B' H' Q hv e q => by
  cases hv with
  | cons h1 t =>
  cases t with
  | cons h2 t =>
    cases t
    cases h1
    cases h2
    exact ⟨i, j, rfl, q _ (.int _)⟩) stays_dp
theorem ev_max2 {i j : Int} (ha : EvD K ta σ B (.int i)) (hb : EvD K tb σ B (.int j)) : EvD K (tCB rMax2 (tCons ta (tCons tb tNil))) σ B (.int (if j > i then j else i)) := ev_cb (ea_cons ha (ea_cons hb ea_nil)) (fun vs B' H' Q hv e q => by
  cases hv with
  | cons h1 t =>
  cases t with
  | cons h2 t =>
    cases t
    cases h1
    cases h2
    exact ⟨i, j, rfl, q _ (.int _)⟩) stays_dp
/-- x in xs, of ints -/
theorem inV_ints {i : Int} : ∀ {ns : List Int}, inV (.int i) (ns.map V.int) = decide (i ∈ ns)
  | [] => by simp [inV]
  | n :: ns => by
    have ih := inV_ints (i := i) (ns := ns)
    unfold inV at ih ⊢
    rw [List.map_cons, List.any_cons, ih]
    have e : eqV (.int n) (.int i) = decide (n = i) := by
      unfold eqV
      by_cases h : n = i <;> simp [h]
    rw [e]
    by_cases h : n = i
    · simp [h]
    · have h' : ¬ i = n := fun z => h z.symm
      simp [h, h']
theorem flat_ints {ns : List Int} : (ns.map V.int).all flatV = true := by
  rw [List.all_eq_true]
  intro v hv
  obtain ⟨n, _, rfl⟩ := List.mem_map.mp hv
  rfl
theorem ev_in {neg t : Bool} {i : Int} {ns : List Int} (ha : EvD K ta σ B (.int i)) (hb : EvD K tb σ B (seqD t (ns.map .int))) : EvD K (tOp (rIn K neg) ta tb) σ B (.bool (if neg then !decide (i ∈ ns) else decide (i ∈ ns))) :=
  ev_op ha hb (fun x y B' H' Q hx hy e q => by
    cases hx
    obtain ⟨a, vs, rfl, hs, hd, _⟩ := Dq.seq hy
    have e2 := DqAll.ints_eq hd
    subst e2
    refine ⟨a, _, rfl, hs.elim (fun h => .inl (ex_l e h)) (fun h => .inr (ex_t e h)), rfl, flat_ints, ?_⟩
    rw [inV_ints]
    exact q _ (.bl _)) stays_dp
/-- == and != of data -/
theorem ev_eqD (ha : EvD K ta σ B d) (hb : EvD K tb σ B d') (s1 : SeqAt.shaped d = true) (s2 : SeqAt.shaped d' = true) : EvD K (tOp (rEqD K) ta tb) σ B (.bool (PyData.eqv d d')) :=
  ev_op ha hb (fun x y B' H' Q hx hy e q => ⟨d, d', Dq.dp (Dq.mono e hx), Dq.dp (Dq.mono e hy), s1, s2, q _ (.bl _)⟩) stays_dp
theorem ev_neD (ha : EvD K ta σ B d) (hb : EvD K tb σ B d') (s1 : SeqAt.shaped d = true) (s2 : SeqAt.shaped d' = true) : EvD K (tOp (rNeD K) ta tb) σ B (.bool (!PyData.eqv d d')) :=
  ev_op ha hb (fun x y B' H' Q hx hy e q => ⟨d, d', Dq.dp (Dq.mono e hx), Dq.dp (Dq.mono e hy), s1, s2, q _ (.bl _)⟩) stays_dp
end
end Pw

/-! ## PwLoop -/
namespace Pw
open PySem L2 Evl

/-! ### walks: what a loop or a comprehension goes through -/
def Wk (wi : TI) (σ : L2.St) (B : Hp) (n : Nat) (xd : Nat → V → Hp → Prop) : Prop := ∀ S H, Wd S B H → ∀ R : It → Hp → Prop,
  (∀ J B1 H1, Ex H H1 → Ex B B1 → Wd S B1 H1 → (∀ i H', Ex B1 H' → i < n → J.go i H') → (∀ i H', Ex B1 H' → i = n → J.stop i H') →
    (∀ i S' B' H' x H'', Ex B1 B' → Wd S' B' H' → i < n → J.yld i H' x H'' → ∃ B'', Ex H' H'' ∧ Ex B' B'' ∧ Wd S' B'' H'' ∧ xd i x B'') → R J H1) → wi σ H R
section
variable {K : PySem.W.Frag} {σ : L2.St} {B H : Hp} {S : List Addr} {te ta tb tl : TE} {tt : TT} {tA : TA} {wi wi1 wi2 : TI} {g : TG} {tu : TS} {D : Ends} {n : Nat} {xd : Nat → V → Hp → Prop} {ds : List PyData}
/-- a walk over data -/
abbrev xdOf (K : PySem.W.Frag) (ds : List PyData) : Nat → V → Hp → Prop := fun i x B => ∃ d, ds[i]? = some d ∧ Dq K B x d
abbrev WkD (K : PySem.W.Frag) (wi : TI) (σ : L2.St) (B : Hp) (ds : List PyData) : Prop := Wk wi σ B ds.length (xdOf K ds)
theorem wk_list (h : EvD K tl σ B (.list ds)) : WkD K (iList K tl) σ B ds := fun S H w R k => h.bind w fun v B1 H1 e1 eB1 w1 r => by
  cases r with
  | @lst a xs _ hs hd =>
    have hl := DqAll.length hd
    refine ⟨a, rfl, ⟨xs, ex_l w1.ex hs⟩, k _ B1 H1 e1 eB1 w1 (fun i H' e hi => ⟨xs, xs[i]'(by omega), ex_l e hs, List.getElem?_eq_getElem _⟩) (fun i H' e hi => ⟨xs, ex_l e hs, by omega⟩) fun i S' B' H' x H'' eB w' hi y => ?_⟩
    obtain ⟨rfl, f⟩ := y
    have hx := f _ (ex_l (eB.trans w'.ex) hs)
    obtain ⟨d, h1, h2⟩ := DqAll.get hd hx
    exact ⟨B', Ex.refl _, Ex.refl _, w', d, h1, Dq.mono eB h2⟩
theorem wk_tup (h : EvD K tl σ B (.tuple ds)) : WkD K (iTup K tl) σ B ds := fun S H w R k => h.bind w fun v B1 H1 e1 eB1 w1 r => by
  cases r with
  | @tup a xs _ hs hd =>
    have hl := DqAll.length hd
    refine ⟨a, rfl, ⟨xs, st_of (w1.ex _ _ hs)⟩, k _ B1 H1 e1 eB1 w1 (fun i H' e hi => ⟨xs, xs[i]'(by omega), st_of (e _ _ hs), List.getElem?_eq_getElem _⟩) (fun i H' e hi => ⟨xs, st_of (e _ _ hs), by omega⟩) fun i S' B' H' x H'' eB w' hi y => ?_⟩
    obtain ⟨rfl, f⟩ := y
    have hx := f _ (st_of ((eB.trans w'.ex) _ _ hs))
    obtain ⟨d, h1, h2⟩ := DqAll.get hd hx
    exact ⟨B', Ex.refl _, Ex.refl _, w', d, h1, Dq.mono eB h2⟩
theorem wk_seq {t : Bool} (h : EvD K tl σ B (seqD t ds)) : WkD K (fun σ H R => iList K tl σ H R ∨ iTup K tl σ H R) σ B ds := by
  cases t with
  | true => exact fun S H w R k => .inr (wk_tup (show EvD K tl σ B (.tuple ds) from h) S H w R k)
  | false => exact fun S H w R k => .inl (wk_list (show EvD K tl σ B (.list ds) from h) S H w R k)
/-- the ints from lo on, n of them -/
def rngI (lo : Int) (n : Nat) : List Int := (List.range n).map fun (i : Nat) => lo + (i : Int)
theorem rngI_len {lo : Int} {n : Nat} : (rngI lo n).length = n := by unfold rngI; rw [List.length_map, List.length_range]
theorem rngI_get {lo : Int} {n i : Nat} (h : i < n) : (rngI lo n)[i]? = some (lo + (i : Int)) := by
  unfold rngI
  rw [List.getElem?_map, List.getElem?_range h]
  rfl
theorem rngI_mem {lo x : Int} {n : Nat} : x ∈ rngI lo n ↔ lo ≤ x ∧ x < lo + (n : Int) := by
  unfold rngI
  rw [List.mem_map]
  constructor
  · rintro ⟨i, hi, rfl⟩
    have := List.mem_range.mp hi
    omega
  · rintro ⟨h1, h2⟩
    exact ⟨(x - lo).toNat, List.mem_range.mpr (by omega), by omega⟩
theorem wk_itr {lo : Int} {m : Nat} {S : List Addr} {H : Hp} {R : It → Hp → Prop} (w : Wd S B H)
    (k : ∀ J B1 H1, Ex H H1 → Ex B B1 → Wd S B1 H1 → (∀ i H', Ex B1 H' → i < ((rngI lo m).map PyData.int).length → J.go i H') → (∀ i H', Ex B1 H' → i = ((rngI lo m).map PyData.int).length → J.stop i H') →
    (∀ i S' B' H' x H'', Ex B1 B' → Wd S' B' H' → i < ((rngI lo m).map PyData.int).length → J.yld i H' x H'' → ∃ B'', Ex H' H'' ∧ Ex B' B'' ∧ Wd S' B'' H'' ∧ xdOf K ((rngI lo m).map PyData.int) i x B'') → R J H1) : R (Itr lo m) H := by
  have hl : ((rngI lo m).map PyData.int).length = m := by rw [List.length_map, rngI_len]
  rw [hl] at k
  refine k _ B H (Ex.refl H) (Ex.refl B) w (fun i H' e hi => hi) (fun i H' e hi => Nat.le_of_eq hi.symm) fun i S' B' H' x H'' eB w' hi y => ?_
  obtain ⟨rfl, rfl⟩ := y
  exact ⟨B', Ex.refl _, Ex.refl _, w', .int (lo + (i : Int)), by rw [List.getElem?_map, rngI_get hi]; rfl, .int _⟩
theorem wk_rng1 {j : Int} (h : EvAD K tA σ B [.int j]) (hj : -100000 ≤ j ∧ j ≤ 100000) : WkD K (iRng1 tA) σ B ((rngI 0 j.toNat).map .int) := fun S H w R k => by
  refine h.bind w fun vs B1 H1 e1 eB1 w1 rs => ?_
  cases rs with
  | cons r1 r2 =>
    cases r1
    cases r2
    exact ⟨j, rfl, by omega, by omega, wk_itr w1 fun J B2 H2 e2 eB2 w2 => k J B2 H2 (e1.trans e2) (eB1.trans eB2) w2⟩
theorem wk_rng2 {i j : Int} (h : EvAD K tA σ B [.int i, .int j]) (hi : -100000 ≤ i ∧ i ≤ 100000) (hj : -100000 ≤ j ∧ j ≤ 100000) : WkD K (iRng2 tA) σ B ((rngI i (j - i).toNat).map .int) := fun S H w R k => by
  refine h.bind w fun vs B1 H1 e1 eB1 w1 rs => ?_
  cases rs with
  | cons r1 r2 =>
    cases r2 with
    | cons r2 r3 =>
    cases r1
    cases r2
    cases r3
    exact ⟨i, j, rfl, ⟨by omega, by omega, by omega, by omega⟩, wk_itr w1 fun J B2 H2 e2 eB2 w2 => k J B2 H2 (e1.trans e2) (eB1.trans eB2) w2⟩

/-! ### comprehensions -/
def TurnLc (K : PySem.W.Frag) (g : TG) (tt : TT) (te : TE) (σ : L2.St) (vs : List Nat) (B : Hp) (d : PyData) (fa : Bool) (ea : PyData) : Prop :=
  ∀ x S B' H', Ex B B' → Wd S B' H' → Dq K B' x d → ∀ (Qy : VK) (Qn : Hp → Prop), (fa = true → ∀ y B2 H2, Ex H' H2 → Ex B' B2 → Wd S B2 H2 → Dq K B2 y ea → Qy y H2) → (fa = false → ∀ B2 H2, Ex H' H2 → Ex B' B2 → Wd S B2 H2 → Qn H2) →
    g x (wipe σ vs) H' fun σ2 H2 => wipe σ2 vs = wipe σ vs ∧ tt σ2 H2 fun b H3 => if b = true then te σ2 H3 Qy else Qn H3
theorem ev_lc {α : Type} (l : List α) (enc : α → PyData) (f : α → Bool) (e : α → PyData) {vs : List Nat} (hk : WkD K wi σ B (l.map enc)) (hl : l.length ≤ 40000) (turn : ∀ a ∈ l, TurnLc K g tt te σ vs B (enc a) (f a) (e a)) :
    EvD K (tLc wi g tt te vs) σ B (.list ((l.filter f).map e)) := fun S H w Q q => by
  refine hk S H w _ fun J B1 H1 e1 eB1 w1 hgo hstop hyld Dl hD => ?_
  rw [List.length_map] at hgo hstop hyld
  refine ⟨fun i m H' => m = l.length - i ∧ i ≤ l.length ∧ Ex H1 H' ∧ ∃ B' acc, Ex B1 B' ∧ Wd (Dl :: S) B' H' ∧ H' Dl = some (.lst acc) ∧ DqAll K B' acc (((l.take i).filter f).map e), ⟨l.length, by omega, Nat.zero_le _, Ex.new hD, B1, [], Ex.refl _, w1.own hD, upd_same, .nil⟩, ?_⟩
  rintro i m H2 ⟨rfl, hi, eH, B2, acc, eB2, w2, hA, hd⟩
  by_cases hlt : i < l.length
  · obtain ⟨a, ha⟩ : ∃ a, l[i]? = some a := ⟨l[i], List.getElem?_eq_getElem hlt⟩
    have hmem : a ∈ l := List.mem_of_getElem? ha
    refine .inr ⟨hgo i H2 (eB2.trans w2.ex) hlt, fun H' => ∃ B', ∃ acc, Ex H1 H' ∧ Ex B1 B' ∧ Wd (Dl :: S) B' H' ∧ H' Dl = some (.lst acc) ∧ DqAll K B' acc (((l.take (i + 1)).filter f).map e), fun H' ⟨B', acc, h1, h2, h3, h4, h5⟩ => ⟨l.length - (i + 1), by omega, rfl, by omega, h1, B', acc, h2, h3, h4, h5⟩, fun x H3 hy => ?_⟩
    obtain ⟨B3, e3, eB3, w3, d, hd1, hd2⟩ := hyld i (Dl :: S) B2 H2 x H3 eB2 w2 hlt hy
    have ed : enc a = d := by
      rw [List.getElem?_map, ha] at hd1
      exact Option.some.inj hd1
    subst ed
    have htk : l.take (i + 1) = l.take i ++ [a] := by rw [List.take_add_one, ha]; rfl
    have hA3 := e3 _ _ hA
    refine turn a hmem x (Dl :: S) B3 H3 (eB1.trans (eB2.trans eB3)) w3 hd2 _ _ (fun hf y B4 H4 e4 eB4 w4 hy4 => ?_) (fun hf B4 H4 e4 eB4 w4 => ?_)
    · have hlen : acc.length ≤ l.length := by
        rw [DqAll.length hd, List.length_map]
        refine Nat.le_trans (List.length_filter_le _ _) ?_
        rw [List.length_take]
        exact Nat.min_le_right _ _
      refine ⟨acc, e4 _ _ hA3, sz_lt (by omega), B4, acc ++ [y], ?_, eB2.trans (eB3.trans eB4), w4.put List.mem_cons_self, upd_same, ?_⟩
      · exact (eH.trans (e3.trans e4)).mut hD
      · rw [htk, List.filter_append, List.filter_cons, if_pos hf, List.map_append]
        exact DqAll.snoc (DqAll.mono (eB3.trans eB4) hd) hy4
    · refine ⟨B4, acc, eH.trans (e3.trans e4), eB2.trans (eB3.trans eB4), w4, e4 _ _ hA3, ?_⟩
      rw [htk, List.filter_append, List.filter_cons, if_neg (by rw [hf]; decide)]
      show DqAll K B4 acc ((List.filter f (l.take i) ++ []).map e)
      rw [List.append_nil]
      exact DqAll.mono (eB3.trans eB4) hd
  · have ei : i = l.length := by omega
    subst ei
    refine .inl ⟨hstop _ H2 (eB2.trans w2.ex) rfl, q _ _ (e1.trans eH) ?_⟩
    rw [List.take_length] at hd
    have w4 := w2.give hA (w1.nin hD)
    exact Dq.mono (ex_mi w4.ex w4.no) (.lst (sq_of upd_same) (DqAll.mono w2.giveE hd))
theorem turn_name {j : Nat} {vs : List Nat} {d ea : PyData} {fa : Bool} (hv : ∀ x, wipe ((wipe σ vs).set j (some x)) vs = wipe σ vs)
    (ht : ∀ x B', Ex B B' → Dq K B' x d → EvB tt ((wipe σ vs).set j (some x)) B' fa) (he : ∀ x B', Ex B B' → Dq K B' x d → fa = true → EvD K te ((wipe σ vs).set j (some x)) B' ea) : TurnLc K (gName j) tt te σ vs B d fa ea :=
  fun x S B' H' eB w hx Qy Qn hy hn => ⟨hv x, (ht x B' eB hx).bind w fun B2 H2 e2 eB2 w2 => by
    cases fa with
    | true => exact ((he x B' eB hx rfl).mono eB2).bind w2 fun y B3 H3 e3 eB3 w3 r => hy rfl y B3 H3 (e2.trans e3) (eB2.trans eB3) w3 r
    | false => exact hn rfl B2 H2 e2 eB2 w2⟩
theorem turn_two {j1 j2 : Nat} {vs : List Nat} {d1 d2 ea : PyData} {fa : Bool} (hv : ∀ x1 x2, wipe (((wipe σ vs).set j1 (some x1)).set j2 (some x2)) vs = wipe σ vs)
    (ht : ∀ x1 x2 B', Ex B B' → Dq K B' x1 d1 → Dq K B' x2 d2 → EvB tt (((wipe σ vs).set j1 (some x1)).set j2 (some x2)) B' fa)
    (he : ∀ x1 x2 B', Ex B B' → Dq K B' x1 d1 → Dq K B' x2 d2 → fa = true → EvD K te (((wipe σ vs).set j1 (some x1)).set j2 (some x2)) B' ea) : TurnLc K (gTup K 2 (gCons (gName j1) (gCons (gName j2) gNil))) tt te σ vs B (.tuple [d1, d2]) fa ea :=
  fun x S B' H' eB w hx Qy Qn hy hn => by
    cases hx with
    | tup hs hd =>
    cases hd with
    | cons h1 t =>
    cases t with
    | cons h2 t =>
    cases t
    refine ⟨_, _, rfl, st_of (w.ex _ _ hs), rfl, _, _, rfl, _, _, rfl, rfl, hv _ _, (ht _ _ B' eB h1 h2).bind w fun B2 H2 e2 eB2 w2 => ?_⟩
    cases fa with
    | true => exact ((he _ _ B' eB h1 h2 rfl).mono eB2).bind w2 fun y B3 H3 e3 eB3 w3 r => hy rfl y B3 H3 (e2.trans e3) (eB2.trans eB3) w3 r
    | false => exact hn rfl B2 H2 e2 eB2 w2
theorem turn_three {j1 j2 j3 : Nat} {vs : List Nat} {d1 d2 d3 ea : PyData} {fa : Bool} (hv : ∀ x1 x2 x3, wipe ((((wipe σ vs).set j1 (some x1)).set j2 (some x2)).set j3 (some x3)) vs = wipe σ vs)
    (ht : ∀ x1 x2 x3 B', Ex B B' → Dq K B' x1 d1 → Dq K B' x2 d2 → Dq K B' x3 d3 → EvB tt ((((wipe σ vs).set j1 (some x1)).set j2 (some x2)).set j3 (some x3)) B' fa)
    (he : ∀ x1 x2 x3 B', Ex B B' → Dq K B' x1 d1 → Dq K B' x2 d2 → Dq K B' x3 d3 → fa = true → EvD K te ((((wipe σ vs).set j1 (some x1)).set j2 (some x2)).set j3 (some x3)) B' ea) : TurnLc K (gTup K 3 (gCons (gName j1) (gCons (gName j2) (gCons (gName j3) gNil)))) tt te σ vs B (.tuple [d1, d2, d3]) fa ea :=
  fun x S B' H' eB w hx Qy Qn hy hn => by
    cases hx with
    | tup hs hd =>
    cases hd with
    | cons h1 t =>
    cases t with
    | cons h2 t =>
    cases t with
    | cons h3 t =>
    cases t
    refine ⟨_, _, rfl, st_of (w.ex _ _ hs), rfl, _, _, rfl, _, _, rfl, _, _, rfl, rfl, hv _ _ _, (ht _ _ _ B' eB h1 h2 h3).bind w fun B2 H2 e2 eB2 w2 => ?_⟩
    cases fa with
    | true => exact ((he _ _ _ B' eB h1 h2 h3 rfl).mono eB2).bind w2 fun y B3 H3 e3 eB3 w3 r => hy rfl y B3 H3 (e2.trans e3) (eB2.trans eB3) w3 r
    | false => exact hn rfl B2 H2 e2 eB2 w2

/-! ### statements -/
theorem st_asg {i : Nat} {R : V → Hp → Prop} (w : Wd S B H) (h : EvR te σ B R) (k : ∀ v B' H', Ex H H' → Ex B B' → Wd S B' H' → R v B' → D.nx (σ.set i (some v)) H') : tAsg te (gName i) D σ H := h.bind w k
theorem st_ret {R : V → Hp → Prop} (w : Wd S B H) (h : EvR te σ B R) (k : ∀ v B' H', Ex H H' → Ex B B' → Wd S B' H' → R v B' → D.rt v H') : tRet te D σ H := h.bind w k
theorem st_if {tv : TS} {b : Bool} (w : Wd S B H) (h : EvB tt σ B b) (h1 : b = true → ∀ B' H', Ex H H' → Ex B B' → Wd S B' H' → tu D σ H') (h2 : b = false → ∀ B' H', Ex H H' → Ex B B' → Wd S B' H' → tv D σ H') : tIfS tt tu tv D σ H := h.bind w fun B' H' e eB w' => by
  cases b with
  | true => exact h1 rfl B' H' e eB w'
  | false => exact h2 rfl B' H' e eB w'
theorem st_for {α : Type} (l : List α) (enc : α → PyData) (w : Wd S B H) (hk : WkD K wi σ B (l.map enc)) (k : ∀ B1 H1, Ex H H1 → Ex B B1 → Wd S B1 H1 → ∃ Iv : Nat → L2.St → Hp → Prop, Iv 0 σ H1 ∧
    (∀ i a σ' H', l[i]? = some a → Iv i σ' H' → ∃ S' B', Ex B1 B' ∧ Wd S' B' H' ∧ ∀ x B'' H'', Ex H' H'' → Ex B' B'' → Wd S' B'' H'' → Dq K B'' x (enc a) → g x σ' H'' fun σ2 H2 => tu { D with nx := Iv (i + 1), ct := Iv (i + 1), bk := D.nx } σ2 H2) ∧
    (∀ σ' H', Iv l.length σ' H' → (∃ S' B', Ex B1 B' ∧ Wd S' B' H') ∧ D.nx σ' H')) : tFor wi g tu D σ H := by
  refine hk S H w _ fun J B1 H1 e1 eB1 w1 hgo hstop hyld => ?_
  rw [List.length_map] at hgo hstop hyld
  obtain ⟨Iv, h0, hs, hd⟩ := k B1 H1 e1 eB1 w1
  refine ⟨fun i m σ' H' => m = l.length - i ∧ i ≤ l.length ∧ Iv i σ' H', ⟨l.length, by omega, Nat.zero_le _, h0⟩, ?_⟩
  rintro i m σ2 H2 ⟨rfl, hi, p⟩
  by_cases hlt : i < l.length
  · obtain ⟨a, ha⟩ : ∃ a, l[i]? = some a := ⟨l[i], List.getElem?_eq_getElem hlt⟩
    obtain ⟨S', B', eB', w', t⟩ := hs i a σ2 H2 ha p
    refine .inr ⟨hgo i H2 (eB'.trans w'.ex) hlt, Iv (i + 1), fun σ' H' p' => ⟨l.length - (i + 1), by omega, rfl, by omega, p'⟩, fun x H3 hy => ?_⟩
    obtain ⟨B3, e3, eB3, w3, d, hd1, hd2⟩ := hyld i S' B' H2 x H3 eB' w' hlt hy
    have ed : enc a = d := by
      rw [List.getElem?_map, ha] at hd1
      exact Option.some.inj hd1
    subst ed
    exact t x B3 H3 e3 eB3 w3 hd2
  · have ei : i = l.length := by omega
    subst ei
    obtain ⟨⟨S', B', eB', w'⟩, h⟩ := hd σ2 H2 p
    exact .inl ⟨hstop _ H2 (eB'.trans w'.ex) rfl, h⟩

/-! ### calls of defs that change nothing -/
/-- what a def that changes nothing is worth: from data of these kinds a value of this one -/
def spD (K : PySem.W.Frag) (f : List PyData → PyData → Prop) : Sp := fun vs H Q _ => ∃ S B ds d, Wd S B H ∧ DqAll K B vs ds ∧ f ds d ∧ ∀ v B' H', Ex H H' → Ex B B' → Wd S B' H' → Dq K B' v d → Q v H'
theorem ev_call {f : List PyData → PyData → Prop} {d : PyData} {E : XK} (h : EvAD K tA σ B ds) (hf : f ds d) : EvD K (tCall (spD K f) [] E tA) σ B d :=
  evR_of (fun S H w Q q => h.bind w fun vs B1 H1 e1 eB1 w1 rs => ⟨S, B1, ds, d, w1, by rw [List.append_nil]; exact rs, hf, fun v B' H' e eB w' r => q v B' H' (e1.trans e) (eB1.trans eB) w' r⟩) stays_dp
end
end Pw

/-! ## PwDict -/
namespace Pw
open PySem L2 Evl
section
variable {K : PySem.W.Frag} {σ : L2.St} {B H : Hp} {S : List Addr} {te ta tb td tl : TE} {tA : TA} {R R' : V → Hp → Prop}
theorem ev_varR {i : Nat} {v : V} (h : σ[i]? = some (some v)) (r : R v B) (st : Stays R) : EvR (tVar i) σ B R := evR_of (fun S H w Q q => ⟨v, h, q v B H (Ex.refl H) (Ex.refl B) w r⟩) st
/-- a dict of which it matters which ints are its keys -/
def DSet (ks : List Int) (v : V) (B : Hp) : Prop := ∃ a kvs, v = .ref a ∧ B a = some (.dK kvs) ∧ ∀ k : Int, (valV kvs (.inl k)).isSome = decide (k ∈ ks)
theorem stays_dset {ks : List Int} : Stays (DSet ks) := fun v B B' e ⟨a, kvs, h1, h2, h3⟩ => ⟨a, kvs, h1, e _ _ h2, h3⟩
def rDictP (K : PySem.W.Frag) : List V → Hp → VK → Prop := fun xs H Q => ∃ (a : Addr) (ps : List Addr) (kvs : List (Key × V)), xs = [.ref a] ∧ SqL K H a (ps.map V.ref) ∧ Paired (fun p kv => SqT K H p [kV kv.1, kv.2]) ps kvs ∧
    ∀ p, H p = none → Q (.ref p) (upd H p (.dK (mergeK [] kvs)))
theorem pairs_ints {f : Int → PyData} : ∀ {ks : List Int} {xs : List V}, DqAll K B xs (ks.map fun k => .tuple [.int k, f k]) →
    ∃ (ps : List Addr) (kvs : List (Key × V)), xs = ps.map V.ref ∧ Paired (fun p kv => SqT K B p [kV kv.1, kv.2]) ps kvs ∧ kvs.map (·.1) = ks.map Sum.inl
  | [], _, h => by cases h; exact ⟨[], [], rfl, .nil, rfl⟩
  | k :: ks, _, h => by
    cases h with
    | cons h1 h2 =>
    obtain ⟨ps, kvs, rfl, h3, h4⟩ := pairs_ints h2
    cases h1 with
    | @tup a ys _ hs hd =>
    cases hd with
    | @cons y1 _ _ _ q1 t =>
    cases t with
    | @cons y2 _ _ _ q2 t =>
    cases t
    cases q1
    exact ⟨a :: ps, (.inl k, y2) :: kvs, rfl, .cons (st_of hs) h3, by rw [List.map_cons, List.map_cons, h4]⟩
theorem merge_some {κ : Type} [DecidableEq κ] (k : κ) : ∀ (kvs acc : List (κ × V)), (valV (kvs.foldl (fun acc kv => putK acc kv.1 kv.2) acc) k).isSome = ((valV acc k).isSome || decide (k ∈ kvs.map (·.1)))
  | [], acc => by simp
  | p :: r, acc => by
    rw [List.foldl_cons, merge_some k r, valV_put, List.map_cons]
    by_cases h : k = p.1
    · simp [h]
    · rw [if_neg h]
      have e : decide (k ∈ p.1 :: r.map (·.1)) = decide (k ∈ r.map (·.1)) := by
        by_cases q : k ∈ r.map (·.1)
        · rw [decide_eq_true q, decide_eq_true (List.mem_cons_of_mem _ q)]
        · rw [decide_eq_false q, decide_eq_false (fun z => (List.mem_cons.mp z).elim h q)]
      rw [e]
theorem paired_mono {H H' : Hp} {ps : List Addr} {kvs : List (Key × V)} (e : Ex H H') (h : Paired (fun p (kv : Key × V) => SqT K H p [kV kv.1, kv.2]) ps kvs) : Paired (fun p (kv : Key × V) => SqT K H' p [kV kv.1, kv.2]) ps kvs :=
  Paired.mapP h fun _ _ q => ex_t e q
theorem ev_dset {ks : List Int} {f : Int → PyData} (h : EvD K ta σ B (.list (ks.map fun k => .tuple [.int k, f k]))) : EvR (tCB (rDictP K) (tCons ta tNil)) σ B (DSet ks) :=
  evR_of (fun S H w Q q => (ea_cons h ea_nil).bind w fun vs B1 H1 e1 eB1 w1 rs => by
    cases rs with
    | cons r1 r2 =>
    cases r2
    cases r1 with
    | @lst a xs _ hs hd =>
    obtain ⟨ps, kvs, rfl, hp, hk⟩ := pairs_ints hd
    refine ⟨a, ps, kvs, rfl, ex_l w1.ex hs, paired_mono w1.ex hp, fun p hp => q (.ref p) _ _ (e1.trans (Ex.new hp)) (eB1.trans (w1.newE (o := .dK (mergeK [] kvs)) hp)) (w1.new hp) ⟨p, _, rfl, upd_same, fun k => ?_⟩⟩
    unfold mergeK
    rw [merge_some, hk]
    simp [valV_nil]) stays_dset
theorem ev_din {i : Int} {ks : List Int} (ha : EvD K ta σ B (.int i)) (hd : EvR td σ B (DSet ks)) : EvD K (tDIn ta td) σ B (.bool (decide (i ∈ ks))) :=
  evR_of (fun S H w Q q => ha.bind w fun x B1 H1 e1 eB1 w1 rx => (hd.mono eB1).bind w1 fun y B2 H2 e2 eB2 w2 ⟨a, kvs, ey, hy, hk⟩ => by
    cases rx
    subst ey
    refine ⟨a, _, rfl, .k (k := .inl i) (w2.ex _ _ hy), ?_⟩
    rw [hk]
    exact q _ B2 H2 (e1.trans e2) (eB1.trans eB2) w2 (.bl _)) stays_dp
theorem ev_dnin {i : Int} {ks : List Int} (ha : EvD K ta σ B (.int i)) (hd : EvR td σ B (DSet ks)) : EvD K (tDNotIn ta td) σ B (.bool (!decide (i ∈ ks))) :=
  evR_of (fun S H w Q q => ha.bind w fun x B1 H1 e1 eB1 w1 rx => (hd.mono eB1).bind w1 fun y B2 H2 e2 eB2 w2 ⟨a, kvs, ey, hy, hk⟩ => by
    cases rx
    subst ey
    refine ⟨a, _, rfl, .k (k := .inl i) (w2.ex _ _ hy), ?_⟩
    rw [hk]
    exact q _ B2 H2 (e1.trans e2) (eB1.trans eB2) w2 (.bl _)) stays_dp
theorem filter_yes {α : Type} (l : List α) : l.filter (fun _ => true) = l := by simp
end
end Pw

/-! ## PwIsi -/
namespace Pw
open PySem L2 Evl
/-- a datum's class -/
def tyN : PyData → String
  | .none => "NoneType"
  | .bool _ => "bool"
  | .int _ => "int"
  | .str _ => "str"
  | .list _ => "list"
  | .tuple _ => "tuple"
  | .dict _ => "dict"
section
variable {K : PySem.W.Frag} {σ : L2.St} {B H : Hp} {S : List Addr} {te ta tb td tl : TE} {tA : TA} {d : PyData} {b b1 b2 : Bool}
theorem tyx_of {v : V} (h : Dq K B v d) (e : Ex B H) : TyX K H v (.type (tyN d)) := by
  cases h with
  | non => exact .base .non
  | bl b => exact .base (.bl b)
  | int i => exact .base (.int i)
  | str x => exact .base (.str x)
  | lst hs _ =>
    rcases ex_l e hs with (h | ⟨o, h⟩) | ⟨o, _, _, h, hc, _⟩
    · exact .base (.lst h)
    · exact .base (.frz h)
    · exact .kList h hc
  | tup hs _ =>
    exact .base (.tup (e _ _ hs))
theorem ev_isi {T : String} (h : EvD K ta σ B d) (hb : kitB (tyN d) T = some b) : EvD K (tCB (rIsi K) (tCons ta (tCons (tC (.ty T)) tNil))) σ B (.bool b) :=
  evR_of (fun S H w Q q => h.bind w fun x B1 H1 e1 eB1 w1 rx => ⟨x, .ty T, _, _, b, rfl, .ty T, tyx_of rx w1.ex, kit_ty hb, q _ B1 H1 e1 eB1 w1 (.bl _)⟩) stays_dp
theorem ev_isi2 {T1 T2 : String} (h : EvD K ta σ B d) (h1 : kitB (tyN d) T1 = some b1) (h2 : kitB (tyN d) T2 = some b2) : EvD K (tCB (rIsiT K) (tCons ta (tCons (tTup (tCons (tC (.ty T1)) (tCons (tC (.ty T2)) tNil))) tNil))) σ B (.bool (b1 || b2)) :=
  evR_of (fun S H w Q q => h.bind w fun x B1 H1 e1 eB1 w1 rx => by
    refine ⟨(by show 2 ≤ sizeLine; decide), fun p hp => ⟨x, p, [.ty T1, .ty T2], _, [.type T1, .type T2], b1 || b2, rfl, upd_same, .cons (.ty T1) (.cons (.ty T2) .nil), tyx_of rx (w1.ex.trans (Ex.new hp)), ?_, q _ _ _ (e1.trans (Ex.new hp)) eB1 (w1.ext (Ex.new hp)) (.bl _)⟩⟩
    refine kitAny_cons (kit_ty h1) (fun z => ?_) (fun z => by rw [z]; rfl)
    rw [z, Bool.false_or]
    exact kitAny_cons (kit_ty h2) (fun z2 => by rw [z2]; exact kitAny_nil) fun z2 => z2) stays_dp
def rIsNs : R2 := fun x y H Q => y = .non ∧ Q (.bl (decide (x = .non))) H
theorem ev_isN (h : EvD K ta σ B d) (hb : (tyN d == "NoneType") = b) : EvD K (tOp rIsNs ta (tC .non)) σ B (.bool b) :=
  evR_of (fun S H w Q q => h.bind w fun x B1 H1 e1 eB1 w1 rx => by
    refine ⟨rfl, ?_⟩
    have e : decide (x = .non) = b := by
      subst hb
      cases rx <;> simp [tyN]
    rw [e]
    exact q _ B1 H1 e1 eB1 w1 (.bl _)) stays_dp
def rNotNs : R2 := fun x y H Q => y = .non ∧ Q (.bl (!decide (x = .non))) H
theorem ev_notN (h : EvD K ta σ B d) (hb : (tyN d == "NoneType") = b) : EvD K (tOp rNotNs ta (tC .non)) σ B (.bool (!b)) :=
  evR_of (fun S H w Q q => h.bind w fun x B1 H1 e1 eB1 w1 rx => by
    refine ⟨rfl, ?_⟩
    have e : decide (x = .non) = b := by
      subst hb
      cases rx <;> simp [tyN]
    rw [e]
    exact q _ B1 H1 e1 eB1 w1 (.bl _)) stays_dp
/-- things without parts -/
def atomD : PyData → Bool
  | .none => true
  | .bool _ => true
  | .int _ => true
  | .str _ => true
  | _ => false
/-- the same atom twice, by == -/
theorem ev_eqA (ha : EvD K ta σ B d) (hb : EvD K tb σ B d) (hd : atomD d = true) : EvD K (tOp rEq ta tb) σ B (.bool true) :=
  ev_op ha hb (fun x y B' H' Q hx hy _ q => by
    have e : x = y := by cases hx <;> cases hy <;> first | rfl | cases hd
    subst e
    refine ⟨?_, ?_⟩
    · cases hx <;> first | rfl | cases hd
    · rw [decide_eq_true rfl]
      exact q _ (.bl _)) stays_dp
theorem kit_list {x : PyData} (h : atomD x = true) : kitB (tyN x) "list" = some false ∧ kitB (tyN x) "tuple" = some false := by
  match x, h with
  | .none, _ => exact (by decide +kernel : kitB "NoneType" "list" = some false ∧ kitB "NoneType" "tuple" = some false)
  | .bool _, _ => exact (by decide +kernel : kitB "bool" "list" = some false ∧ kitB "bool" "tuple" = some false)
  | .int _, _ => exact (by decide +kernel : kitB "int" "list" = some false ∧ kitB "int" "tuple" = some false)
  | .str _, _ => exact (by decide +kernel : kitB "str" "list" = some false ∧ kitB "str" "tuple" = some false)
theorem kit_strbool {x : PyData} (h : atomD x = true) : kitB (tyN x) "str" = some (tyN x == "str") ∧ kitB (tyN x) "bool" = some (tyN x == "bool") := by
  match x, h with
  | .none, _ => exact (by decide +kernel : kitB "NoneType" "str" = some ("NoneType" == "str") ∧ kitB "NoneType" "bool" = some ("NoneType" == "bool"))
  | .bool _, _ => exact (by decide +kernel : kitB "bool" "str" = some ("bool" == "str") ∧ kitB "bool" "bool" = some ("bool" == "bool"))
  | .int _, _ => exact (by decide +kernel : kitB "int" "str" = some ("int" == "str") ∧ kitB "int" "bool" = some ("int" == "bool"))
  | .str _, _ => exact (by decide +kernel : kitB "str" "str" = some ("str" == "str") ∧ kitB "str" "bool" = some ("str" == "bool"))
theorem kit_int {x : PyData} (h : atomD x = true) (h1 : (tyN x == "NoneType" || tyN x == "str") = false) (h2 : (tyN x == "bool") = false) : kitB (tyN x) "int" = some true := by
  match x, h with
  | .none, _ => cases h1
  | .bool _, _ => cases h2
  | .int _, _ => exact (by decide +kernel : kitB "int" "int" = some true)
  | .str _, _ => cases h1
end
end Pw

/-! ## PwDraw -/
namespace Pw
open PySem L2 Evl
/-! ### expressions that draw from the box b -/
abbrev lid : Nat := 2 ^ 40
def EvX (S : List Addr) (b : Addr) (k : Nat) (te : TE) (σ : L2.St) (B : Hp) (R : V → Hp → Prop) : Prop :=
  ∀ H c, Wd S B H → b ∈ S → BoxAt H b c → c + k ≤ lid → ∀ Q : VK, (∀ v H', Xs [b] H H' → BoxAt H' b (c + k) → R v (mi H' S) → Q v H') → te σ H Q
section
variable {K : PySem.W.Frag} {σ : L2.St} {B H H' : Hp} {S : List Addr} {b : Addr} {k m c : Nat} {te ta tb tl : TE} {tt : TT} {tA : TA} {wi : TI} {g : TG} {R R' : V → Hp → Prop}
theorem Wd.xs (w : Wd S B H) (hb : b ∈ S) (h : BoxAt H b m) (x : Xs [b] H H') (h' : BoxAt H' b c) : Wd S (mi H' S) H' := ⟨mi_ex, fun s m => mi_no m, fun s m => by
  by_cases q : s = b
  · rw [q]; exact h'.some
  · obtain ⟨o, e⟩ := w.at_ s m
    exact ⟨o, x s o (fun z => q (List.mem_singleton.mp z)) e⟩⟩
theorem Wd.xsE (w : Wd S B H) (hb : b ∈ S) (x : Xs [b] H H') : Ex B (mi H' S) := ex_mi (x.ex1 w.ex (w.no b hb)) w.no
theorem EvX.bind (h : EvX S b k te σ B R) {Q : VK} (w : Wd S B H) (hb : b ∈ S) (hB : BoxAt H b c) (hl : c + k ≤ lid) (q : ∀ v B' H', Xs [b] H H' → Ex B B' → Wd S B' H' → BoxAt H' b (c + k) → R v B' → Q v H') : te σ H Q :=
  h H c w hb hB hl Q fun v H' x hB' r => q v _ H' x (w.xsE hb x) (w.xs hb hB x hB') hB' r
theorem EvX.mono {B' : Hp} (e : Ex B B') (h : EvX S b k te σ B R) : EvX S b k te σ B' R := fun H c w hb hB hl Q q => h H c (w.back e) hb hB hl Q q
theorem EvX.more (h : EvX S b k te σ B R) (hk : k ≤ m) : EvX S b m te σ B R := fun H c w hb hB hl Q q => h H c w hb hB (by omega) Q fun v H' x hB' r => q v H' x (hB'.mono (by omega)) r
theorem EvX.imp (h : EvX S b k te σ B R) (i : ∀ v B', R v B' → R' v B') : EvX S b k te σ B R' := fun H c w hb hB hl Q q => h H c w hb hB hl Q fun v H' x hB' r => q v H' x hB' (i _ _ r)
theorem evX_of (h : ∀ H c, Wd S B H → b ∈ S → BoxAt H b c → c + k ≤ lid → ∀ Q : VK, (∀ v B' H', Xs [b] H H' → Ex B B' → Wd S B' H' → BoxAt H' b (c + k) → R v B' → Q v H') → te σ H Q) (st : Stays R) : EvX S b k te σ B R :=
  fun H c w hb hB hl Q q => h H c w hb hB hl Q fun v B' H' x e w' hB' r => q v H' x hB' (st _ _ _ (ex_mi w'.ex w'.no) r)
/-- one that draws nothing -/
theorem EvR.x (h : EvR te σ B R) : EvX S b 0 te σ B R := fun H c w hb hB hl Q q => h S H w Q fun v H' e r => q v H' (Xs.of e) (hB.ex e) r
theorem stays_ex {α : Type} {p : α → Prop} {f : α → PyData} : Stays fun v B => ∃ a, p a ∧ Dq K B v (f a) := fun v B B' e ⟨a, h1, h2⟩ => ⟨a, h1, Dq.mono e h2⟩
/-- an int drawn -/
abbrev IntIn (K : PySem.W.Frag) (p : Int → Prop) (v : V) (B : Hp) : Prop := ∃ i : Int, p i ∧ Dq K B v (.int i)
theorem stays_int {p : Int → Prop} : Stays (IntIn K p) := stays_ex
theorem EvX.get {p : Int → Prop} (h : EvX S b k te σ B (IntIn K p)) {Q : VK} (w : Wd S B H) (hb : b ∈ S) (hB : BoxAt H b c) (hl : c + k ≤ lid) (q : ∀ i B' H', p i → Xs [b] H H' → Ex B B' → Wd S B' H' → BoxAt H' b (c + k) → Q (.int i) H') : te σ H Q :=
  h.bind w hb hB hl fun v B' H' x e w' hB' ⟨i, hi, r⟩ => by cases r; exact q i B' H' hi x e w' hB'

/-- [e for x in l if t], t or e drawing -/
theorem ex_lc {α β : Type} (l : List α) (enc : α → PyData) (encY : β → PyData) (Pr : Nat → List β → Prop) {vs : List Nat} (hk : WkD K wi σ B (l.map enc)) (hl : l.length ≤ 40000) (h0 : Pr 0 []) (hlen : ∀ i ys, Pr i ys → ys.length ≤ i)
    (turn : ∀ i a ys, l[i]? = some a → Pr i ys → ∀ x S' B' H' c', Ex B B' → Wd S' B' H' → b ∈ S' → BoxAt H' b c' → c' + k ≤ lid → Dq K B' x (enc a) → ∀ (Qy : VK) (Qn : Hp → Prop),
      (∀ y yv B2 H2, Xs [b] H' H2 → BoxAt H2 b (c' + k) → Wd S' B2 H2 → Ex B' B2 → Dq K B2 yv (encY y) → Pr (i + 1) (ys ++ [y]) → Qy yv H2) → (Pr (i + 1) ys → ∀ B2 H2, Xs [b] H' H2 → BoxAt H2 b (c' + k) → Wd S' B2 H2 → Ex B' B2 → Qn H2) →
      g x (wipe σ vs) H' fun σ2 H2 => wipe σ2 vs = wipe σ vs ∧ tt σ2 H2 fun b H3 => if b = true then te σ2 H3 Qy else Qn H3) :
    EvX S b (l.length * k) (tLc wi g tt te vs) σ B (fun v B' => ∃ ys, Pr l.length ys ∧ Dq K B' v (.list (ys.map encY))) := fun H c w hb hB hlid Q q => by
  refine hk S H w _ fun J B1 H1 e1 eB1 w1 hgo hstop hyld Dl hD => ?_
  rw [List.length_map] at hgo hstop hyld
  have nbD : Dl ≠ b := fun z => by
    obtain ⟨o, ho⟩ := (hB.ex e1).some
    rw [← z, hD] at ho
    cases ho
  refine ⟨fun i m H' => m = l.length - i ∧ i ≤ l.length ∧ Xs [b] H1 H' ∧ BoxAt H' b (c + i * k) ∧ ∃ B' acc ys, Ex B1 B' ∧ Wd (Dl :: S) B' H' ∧ H' Dl = some (.lst acc) ∧ Pr i ys ∧ DqAll K B' acc (ys.map encY),
    ⟨l.length, by omega, Nat.zero_le _, Xs.of (Ex.new hD), ((hB.ex e1).ex (Ex.new hD)).mono (by omega), B1, [], [], Ex.refl _, w1.own hD, upd_same, h0, .nil⟩, ?_⟩
  rintro i m H2 ⟨rfl, hi, xH, hB2, B2, acc, ys, eB2, w2, hA, hP, hd⟩
  by_cases hlt : i < l.length
  · obtain ⟨a, ha⟩ : ∃ a, l[i]? = some a := ⟨l[i], List.getElem?_eq_getElem hlt⟩
    have hmul : (i + 1) * k ≤ l.length * k := Nat.mul_le_mul_right k hlt
    have hsuc : (i + 1) * k = i * k + k := Nat.succ_mul i k
    refine .inr ⟨hgo i H2 (eB2.trans w2.ex) hlt, fun H' => Xs [b] H1 H' ∧ BoxAt H' b (c + (i + 1) * k) ∧ ∃ B' acc ys, Ex B1 B' ∧ Wd (Dl :: S) B' H' ∧ H' Dl = some (.lst acc) ∧ Pr (i + 1) ys ∧ DqAll K B' acc (ys.map encY), fun H' ⟨h1, h2, h3⟩ => ⟨l.length - (i + 1), by omega, rfl, by omega, h1, h2, h3⟩, fun x H3 hy => ?_⟩
    obtain ⟨B3, e3, eB3, w3, d, hd1, hd2⟩ := hyld i (Dl :: S) B2 H2 x H3 eB2 w2 hlt hy
    have ed : enc a = d := by
      rw [List.getElem?_map, ha] at hd1
      exact Option.some.inj hd1
    subst ed
    have hA3 := e3 _ _ hA
    have hlen2 : acc.length ≤ 40000 := by
      have := hlen _ _ hP
      rw [DqAll.length hd, List.length_map]
      omega
    refine turn i a ys ha hP x (Dl :: S) B3 H3 (c + i * k) (eB1.trans (eB2.trans eB3)) w3 (List.mem_cons_of_mem _ hb) (hB2.ex e3) (by omega) hd2 _ _ (fun y yv B4 H4 x4 hB4 w4 eB4 hy4 hP4 => ?_) (fun hP4 B4 H4 x4 hB4 w4 eB4 => ?_)
    · have hA4 := x4 _ _ (fun z => nbD (List.mem_singleton.mp z)) hA3
      refine ⟨acc, hA4, sz_lt (by omega), ?_, (hB4.mono (by omega)).upd nbD.symm, B4, acc ++ [yv], ys ++ [y], eB2.trans (eB3.trans eB4), w4.put List.mem_cons_self, upd_same, hP4, ?_⟩
      · intro p o hp ho
        rw [upd_ne (ne_of_none ho hD)]
        exact x4 p o hp (e3 _ _ (xH p o hp ho))
      · rw [List.map_append]
        exact DqAll.snoc (DqAll.mono (eB3.trans eB4) hd) hy4
    · exact ⟨xH.trans ((Xs.of e3).trans x4), hB4.mono (by omega), B4, acc, ys, eB2.trans (eB3.trans eB4), w4, x4 _ _ (fun z => nbD (List.mem_singleton.mp z)) hA3, hP4, DqAll.mono (eB3.trans eB4) hd⟩
  · have ei : i = l.length := by omega
    subst ei
    refine .inl ⟨hstop _ H2 (eB2.trans w2.ex) rfl, q _ _ ((Xs.of e1).trans xH) hB2 ?_⟩
    have w4 := w2.give hA (w1.nin hD)
    exact ⟨ys, hP, Dq.mono (ex_mi w4.ex w4.no) (.lst (sq_of upd_same) (DqAll.mono w2.giveE hd))⟩
end
/-! ### the promises of the law's draws -/
theorem b01 (c : Bool) : -(2 ^ 64) < (if c = true then (1 : Int) else 0) ∧ (if c = true then (1 : Int) else 0) < 2 ^ 64 := by cases c <;> decide
theorem b0 (c : Bool) : 0 ≤ (if c = true then (1 : Int) else 0) := by cases c <;> decide
def spCellAt (K : PySem.W.Frag) : Sp := fun vs H Q _ => ∃ (l : Addr) (ns : List Int) (k : Nat), vs = [.ref l, .int (k : Int)] ∧ SqL K H l (ns.map V.int) ∧ ∀ z, Q (.int z) H
def spBox (K : PySem.W.Frag) : Sp := fun vs H Q _ => ∃ (l : Addr) (ns : List Int) (k : Nat), vs = [.ref l, .int (k : Int)] ∧ SqL K H l (ns.map V.int) ∧ k < 100 ∧ ∀ b H', H b = none → Ex H H' → BoxAt H' b 0 → Q (.ref b) H'
def spTake : Sp := fun vs H Q _ => ∃ (b : Addr) (m : Int) (c : Nat), vs = [.ref b, .int m] ∧ BoxAt H b c ∧ c < 2 ^ 40 ∧ 1 ≤ m ∧ m < 2 ^ 100 ∧ ∀ v H', 0 ≤ v → v < m → Bx b (c + 1) H H' → Q (.int v) H'
/-- a number from the least one to few, or from seven to the most -/
def spMany : Sp := fun vs H Q _ => ∃ (b : Addr) (l f m : Int) (c : Nat), vs = [.ref b, .int l, .int f, .int m] ∧ BoxAt H b c ∧ c + 2 < 2 ^ 40 ∧ l ≤ f ∧ 7 ≤ m ∧ m < 2 ^ 60 ∧ f - l < 2 ^ 60 ∧ ∀ v H', (l ≤ v ∧ v ≤ f ∨ 7 ≤ v ∧ v ≤ m) → Bx b (c + 2) H H' → Q (.int v) H'
def spWeight : Sp := fun vs H Q _ => ∃ (b : Addr) (h : Int) (c : Nat), vs = [.ref b, .int h] ∧ BoxAt H b c ∧ c + 2 < 2 ^ 40 ∧ 0 ≤ h ∧ h < 4 ∧ ∀ v H', 1 ≤ v → v ≤ 1000000000 → Bx b (c + 2) H H' → Q (.int v) H'
def spWeb (K : PySem.W.Frag) : Sp := fun vs H Q _ => ∃ (S : List Addr) (b : Addr) (n : Int) (c : Nat), vs = [.ref b, .int n] ∧ b ∈ S ∧ (∀ s ∈ S, ∃ o, H s = some o) ∧ BoxAt H b c ∧ c + 1000 < 2 ^ 40 ∧ 1 ≤ n ∧ n ≤ 30 ∧
  ∀ v H' ts, WebOk n ts → Dq K (mi H' S) v (webD n ts) → Bx b (c + 1000) H H' → Q v H'
theorem Bx.def {S : List Addr} {b : Addr} {c : Nat} {H H' : Hp} (h : Bx b c H H') (hS : ∀ s ∈ S, ∃ o, H s = some o) : ∀ s ∈ S, ∃ o, H' s = some o := fun s m => by
  by_cases q : s = b
  · rw [q]; exact h.at_.some
  · obtain ⟨o, e⟩ := hS s m
    exact ⟨o, h.at q e⟩
theorem nin_def {S : List Addr} {H : Hp} {p : Addr} (hS : ∀ s ∈ S, ∃ o, H s = some o) (hp : H p = none) : p ∉ S := fun m => by
  obtain ⟨o, e⟩ := hS p m
  rw [hp] at e
  cases e
section
variable {K : PySem.W.Frag} {σ : L2.St} {B H H' : Hp} {S : List Addr} {b : Addr} {k m c : Nat} {te ta tb tl tm : TE} {E : XK}
theorem ex_take {i : Nat} {m : Int} (h : σ[i]? = some (some (.ref b))) (hm : EvD K tm σ B (.int m)) (h1 : 1 ≤ m) (h2 : m < 2 ^ 100) : EvX S b 1 (tCall spTake [] E (tCons (tVar i) (tCons tm tNil))) σ B (IntIn K fun v => 0 ≤ v ∧ v < m) :=
  evX_of (fun H c w hb hB hl Q q => ⟨_, h, hm.bind w fun x B1 H1 e1 eB1 w1 rx => by
    cases rx
    refine ⟨b, m, c, rfl, hB.ex e1, by unfold lid at hl; omega, h1, h2, fun v H2 g1 g2 hx => ?_⟩
    have x2 : Xs [b] H H2 := (Xs.of e1).trans hx.x
    exact q (.int v) (mi H2 S) H2 x2 (w.xsE hb x2) (w.xs hb hB x2 hx.at_) hx.at_ ⟨v, ⟨g1, g2⟩, .int v⟩⟩) stays_int
end
theorem Wd.ownX {S : List Addr} {B H H' : Hp} {b : Addr} (w : Wd S B H) (h : H b = none) (e : Ex H H') (d : ∃ o, H' b = some o) : Wd (b :: S) B H' := by
  refine ⟨w.ex.trans e, fun s m => ?_, fun s m => ?_⟩
  · rcases List.mem_cons.mp m with rfl | m
    · exact w.fresh h
    · exact w.no s m
  · rcases List.mem_cons.mp m with rfl | m
    · exact d
    · exact (w.ext e).at_ s m
theorem Wd.bx {S : List Addr} {B H H' : Hp} {b : Addr} {c : Nat} (w : Wd S B H) (hb : b ∈ S) (x : Bx b c H H') : Wd S (mi H' S) H' ∧ Ex B (mi H' S) :=
  ⟨⟨mi_ex, fun s m => mi_no m, x.def w.at_⟩, w.xsE hb x.x⟩
def spLaw (K : PySem.W.Frag) : Sp := fun vs H Q _ => ∃ (a : Addr) (ns : List Int), vs = [.ref a] ∧ SqL K H a (ns.map V.int) ∧ ns.length ≤ 63 ∧ ∀ H', Q (.bl true) H'
theorem two_args {K : PySem.W.Frag} {B : Hp} {vs : List V} {a b : PyData} (h : DqAll K B vs [a, b]) : ∃ v1 v2, vs = [v1, v2] ∧ Dq K B v1 a ∧ Dq K B v2 b := by
  cases h with
  | cons h1 t => cases t with
    | cons h2 t => cases t; exact ⟨_, _, rfl, h1, h2⟩
end Pw

/-! ## PwDT -/
namespace Pw
open PySem PySem.Spec PyProof.Rows L2 PySem.W Evl
/-! ### dict(a list of pairs whose keys are tuples of ints) -/
def mergeT (kvs more : List (List Key × V)) : List (List Key × V) := more.foldl (fun acc kv => putK acc kv.1 kv.2) kvs
theorem length_mergeT : ∀ (more kvs : List (List Key × V)), (mergeT kvs more).length ≤ kvs.length + more.length
  | [], kvs => by show kvs.length ≤ kvs.length + 0; omega
  | p :: r, kvs => by
    have h1 := length_mergeT r (putK kvs p.1 p.2)
    have h2 := length_putK kvs p.1 p.2
    show (mergeT (putK kvs p.1 p.2) r).length ≤ _
    rw [List.length_cons]; omega
theorem KT.merge {H : Hp} : ∀ {more : List (List Key × V)} {rs : List (List Key × Addr × Value)} {kvs : List (List Key × V)} {vs : List (List Key × Addr × Value)}, KT H more rs → KT H kvs vs → KT H (mergeT kvs more) (storedAllH vs rs) := by
  intro more rs kvs vs r
  induction r generalizing kvs vs with
  | nil => intro q; exact q
  | @cons p q ps qs h t ih =>
    intro r0
    have e : KT H (putK kvs p.1 p.2) (storedH vs q.1 q.2.1 q.2.2) := by
      have := r0.put p.1 h.2.1 h.2.2
      rw [← h.1]; exact this
    exact ih e
/-- a pair's tuple, its key's tuple, the key's ints, the value -/
abbrev PairT := Addr × Addr × List Int × V
def kvT (t : PairT) : List Key × V := (t.2.2.1.map Sum.inl, t.2.2.2)
theorem vals_refT {α : Type} {f : α → Addr} : ∀ {ts : List α} {its : List Value}, Vals (ts.map fun t => V.ref (f t)) its → its = ts.map fun t => Value.ref (f t)
  | [], _, r => by cases r; rfl
  | t :: ts, _, r => by
    cases r with
    | cons r1 r2 => rw [show _ = Value.ref (f t) from r1, vals_refT r2]; rfl
section
variable {X : Cx}
theorem pairsT {pins : List (Addr × Obj)} {σ : L2.St} {H : Hp} {s : Shared} (I : L2.Inv X pins σ H s) : ∀ {ts : List PairT}, (∀ t ∈ ts, SqT X.K H t.1 [.ref t.2.1, t.2.2.2] ∧ H t.2.1 = some (.tup (t.2.2.1.map V.int))) →
    ∃ prs : List (List Key × Addr × Value), KT H (ts.map kvT) prs ∧ prs.length = ts.length ∧ ∀ (j : Nat) (q : List Key × Addr × Value), prs[j]? = some q → ∃ t, ts[j]? = some t ∧ q.2.1 = t.2.1 ∧ s.heap.IsTuple t.1 #[.ref q.2.1, q.2.2]
  | [], _ => ⟨[], .nil, rfl, fun j q e => by simp at e⟩
  | t :: ts, h => by
    obtain ⟨prs, h1, h2, h3⟩ := pairsT I (ts := ts) fun u hu => h u (List.mem_cons_of_mem _ hu)
    obtain ⟨g1, g2⟩ := h t List.mem_cons_self
    obtain ⟨its, rv, ht, _⟩ := I.tuple g1
    cases rv with
    | cons r1 rv =>
    cases rv with
    | @cons _ u _ _ r2 rv =>
    cases rv
    cases (show _ = Value.ref t.2.1 from r1)
    refine ⟨(t.2.2.1.map Sum.inl, t.2.1, u) :: prs, .cons ⟨rfl, by rw [g2]; show _ = some (HO.tup ((t.2.2.1.map Sum.inl).map kV)); rw [List.map_map]; rfl, r2⟩ h1, by rw [List.length_cons, List.length_cons, h2], fun j q e => ?_⟩
    cases j with
    | zero =>
      rw [List.getElem?_cons_zero] at e
      cases e
      obtain ⟨o, a1, a2, a3⟩ := ht
      exact ⟨t, rfl, rfl, o, a1, a2, a3⟩
    | succ j => exact h3 j q (by simpa using e)
theorem cr_dictT (hcalm : X.calm = true) (hu : X.A.units + 64 < cLine) : CallR X (.type "dict") (fun xs H Q => ∃ (a : Addr) (ts : List PairT), xs = [.ref a] ∧ SqL X.K H a (ts.map fun t => V.ref t.1) ∧ (∀ t ∈ ts, SqT X.K H t.1 [.ref t.2.1, t.2.2.2] ∧ H t.2.1 = some (.tup (t.2.2.1.map V.int))) ∧
    ∀ p, H p = none → Q (.ref p) (upd H p (.dT (mergeT [] (ts.map kvT))))) := by
  intro pins s σ H xs us Q I r q
  obtain ⟨a, ts, rfl, hq, hp, q⟩ := q
  obtain ⟨u, rfl, rx⟩ := vals1 r
  cases rx
  obtain ⟨its, rv, pl, hz⟩ := I.list hq
  rw [List.length_map] at hz
  have ei := vals_refT rv
  subst ei
  obtain ⟨prs, hkt, hlen, hpr⟩ := pairsT I hp
  obtain ⟨o, n, ho, hc, hd, hdat⟩ := pl
  have hplen : (prs.map fun q => (Value.ref q.2.1, q.2.2)).length = prs.length := List.length_map _
  have hkeys : ∀ x ∈ prs, H x.2.1 = some (.tup (x.1.map kV)) := by
    have all : ∀ {l : List (List Key × V)} {m : List (List Key × Addr × Value)}, KT H l m → ∀ x ∈ m, H x.2.1 = some (.tup (x.1.map kV)) := by
      intro l m q
      induction q with
      | nil => intro x hx; exact nomatch hx
      | @cons p q ps qs hq t ih =>
        intro x hx
        rcases List.mem_cons.mp hx with e | hx
        · subst e
          rw [← hq.1]
          exact hq.2.1
        · exact ih x hx
    exact all hkt
  refine call_dict_pairsH (knd := tupleKind (mixKind X.prog X.w)) (ps := prs) (PairArg.list a (ts.map fun t => Value.ref t.1).toArray (fun j => ((ts[j]?).map (·.1)).getD 0) (prs.map fun q => (Value.ref q.2.1, q.2.2))) (I.ok.hd hcalm) (show X.A.in1.in1.units < cLine from by show X.A.units + 1 + 1 < cLine; omega) ⟨⟨o, n, ho, hc, hd, hdat⟩, ?_, ?_⟩ ⟨hplen.symm, ?_⟩ ?_ (by rw [hplen, hlen]; exact hz) fun h' tk hd' hk => ?_
  · rw [List.size_toArray, List.length_map, hplen, hlen]
  · intro j k v e
    rw [List.getElem?_map] at e
    obtain ⟨q', hq', eq⟩ := Option.map_eq_some_iff.mp e
    cases eq
    obtain ⟨t, ht, e1, e2⟩ := hpr j q' hq'
    refine ⟨?_, ?_⟩
    · rw [List.getElem?_toArray, List.getElem?_map, ht]
      show some (Value.ref t.1) = some (Value.ref (((ts[j]?).map (·.1)).getD 0))
      rw [ht]
      rfl
    · show PairAt s.heap (((ts[j]?).map (·.1)).getD 0) _ _
      rw [ht]
      exact .inl e2
  · intro i key v e
    rw [PairRel, List.getElem?_map] at e
    obtain ⟨q', hq', eq⟩ := Option.map_eq_some_iff.mp e
    cases eq
    exact ⟨q'.1, q'.2.1, hq', rfl⟩
  · intro h' hk x hx
    obtain ⟨o2, items, n2, g1, g2, g3, g4⟩ := key_of I.hok (hkeys x hx)
    exact ⟨o2, items, n2, hk _ _ (Nat.ne_of_lt (Heap.lt_size g1)) (fun z => nomatch z) g1, g2, g3, g4⟩
  · have hm : (s.heap.objs.size == sysModules) = false := beq_eq_false_iff_ne.mpr (Nat.ne_of_gt I.big)
    have hml : (mergeT [] (ts.map kvT)).length ≤ sizeLine := by
      refine Nat.le_trans (length_mergeT _ []) ?_
      rw [List.length_nil, Nat.zero_add, List.length_map]
      exact hz
    have hkt2 : KT H (mergeT [] (ts.map kvT)) (storedAllH [] prs) := KT.merge hkt .nil
    have hn : H s.heap.objs.size = none := I.hok.fresh (Nat.le_refl _)
    obtain ⟨o3, es, ep, g1, g2, g3, g4, _, g5⟩ := hd'
    refine ⟨.ref s.heap.objs.size, upd H s.heap.objs.size (.dT (mergeT [] (ts.map kvT))), I.laid (t' := tk) (fun b u e => hk b u (fun z => nomatch z) e) (Nat.le_refl _) ⟨hml, hm, storedAllH [] prs, hkt2.keeps fun b ys e => ?_, o3, es, ep, g1, g2, g3, g4, g5⟩, rfl, q _ hn⟩
    rw [upd_ne (ne_of_none e hn)]
    exact e
/-- d.update(e), two dicts of ints and texts -/
theorem mt_updK : MtR X "dict.update" (fun x xs H Q => ∃ (d o : Addr) (kvs more : List (Key × V)), x = .ref d ∧ xs = [.ref o] ∧ H d = some (.dK kvs) ∧ H o = some (.dK more) ∧ d ≠ o ∧ kvs.length + more.length ≤ sizeLine ∧ Q .non (upd H d (.dK (mergeK kvs more)))) := by
  intro pins s σ H x xs v us Q I rx rv h
  obtain ⟨d, o, kvs, more, rfl, rfl, hd, ho, hne, hsz, q⟩ := h
  cases rx
  obtain ⟨u, rfl, ru⟩ := rv.one
  cases ru
  obtain ⟨z1, l1, vs, rel1, dd1⟩ := dk_of I.hok hd
  obtain ⟨z2, l2, ws, rel2, dd2⟩ := dk_of I.hok ho
  refine call_meetsIn PySem.F.slot_dict_update dd1.typeIs PySem.F.entry_dict_update (PySem.F.args_dict_update_2 _ _) (meets_dict_update (mixKind X.prog X.w) d o hne l2) ⟨vs, ws, dd1, dd2, by rw [← rel1.length, ← rel2.length]; exact hsz, fun h' hd' ho' hs => ?_⟩
  have hml : (mergeK kvs more).length ≤ sizeLine := Nat.le_trans (length_mergeK more kvs) hsz
  refine ⟨.non, _, d_write I (by rw [hd]; exact True.intro) hs (let ⟨q, _, _, hq, _⟩ := hd'; ⟨q, hq⟩) (dk_new hml l1 (KV.merge rel2 rel1) hd'), rfl, q⟩
end
section
variable {K : PySem.W.Frag} {σ : L2.St} {B H : Hp} {S : List Addr} {te ta tb td tl : TE} {tA : TA} {R R' : V → Hp → Prop} {d d' : PyData} {ds ds' : List PyData}
/-! ### pairs as a dict's keys -/
abbrev pairD (k : Int × Int) : PyData := .tuple [.int k.1, .int k.2]
def DPairs (ks : List (Int × Int)) (v : V) (B : Hp) : Prop := ∃ a kvs, v = .ref a ∧ B a = some (.dT kvs) ∧ ∀ x y : Int, (valV kvs (kPair x y)).isSome = decide ((x, y) ∈ ks)
theorem stays_dpairs {ks : List (Int × Int)} : Stays (DPairs ks) := fun v B B' e ⟨a, kvs, h1, h2, h3⟩ => ⟨a, kvs, h1, e _ _ h2, h3⟩
def rDictT (K : PySem.W.Frag) : List V → Hp → VK → Prop := fun xs H Q => ∃ (a : Addr) (ts : List PairT), xs = [.ref a] ∧ SqL K H a (ts.map fun t => V.ref t.1) ∧ (∀ t ∈ ts, SqT K H t.1 [.ref t.2.1, t.2.2.2] ∧ H t.2.1 = some (.tup (t.2.2.1.map V.int))) ∧
    ∀ p, H p = none → Q (.ref p) (upd H p (.dT (mergeT [] (ts.map kvT))))
theorem pairs_tups {f : Int × Int → PyData} : ∀ {ks : List (Int × Int)} {xs : List V}, DqAll K B xs (ks.map fun k => .tuple [pairD k, f k]) →
    ∃ ts : List PairT, xs = ts.map (fun t => V.ref t.1) ∧ (∀ t ∈ ts, B t.1 = some (.tup [.ref t.2.1, t.2.2.2]) ∧ B t.2.1 = some (.tup (t.2.2.1.map V.int))) ∧ ts.map (fun t => (kvT t).1) = ks.map fun k => kPair k.1 k.2
  | [], _, h => by cases h; exact ⟨[], rfl, (fun t ht => by cases ht), rfl⟩
  | k :: ks, _, h => by
    cases h with
    | cons h1 h2 =>
    obtain ⟨ts, rfl, h3, h4⟩ := pairs_tups h2
    cases h1 with
    | @tup a ys _ hs hd =>
    cases hd with
    | @cons y1 _ _ _ q1 t =>
    cases t with
    | @cons y2 _ _ _ q2 t =>
    cases t
    cases q1 with
    | @tup b zs _ hb hz =>
    have ez := DqAll.ints_eq (ns := [k.1, k.2]) hz
    subst ez
    refine ⟨(a, b, [k.1, k.2], y2) :: ts, rfl, fun t ht => ?_, by rw [List.map_cons, List.map_cons, h4]; rfl⟩
    rcases List.mem_cons.mp ht with rfl | ht
    · exact ⟨hs, hb⟩
    · exact h3 t ht
theorem mergeT_iff (k : List Key) : ∀ (kvs acc : List (List Key × V)), (valV (mergeT acc kvs) k).isSome = true ↔ ((valV acc k).isSome = true ∨ k ∈ kvs.map fun p => p.1)
  | [], acc => by
    show (valV acc k).isSome = true ↔ _
    simp
  | p :: r, acc => by
    have ih := mergeT_iff k r (putK acc p.1 p.2)
    show (valV (mergeT (putK acc p.1 p.2) r) k).isSome = true ↔ _
    rw [ih, valV_put, List.map_cons, List.mem_cons]
    by_cases h : k = p.1
    · rw [if_pos h]
      simp [h]
    · rw [if_neg h]
      simp [h]
theorem kPair_inj {a b c d : Int} (h : kPair a b = kPair c d) : a = c ∧ b = d := by
  unfold kPair at h
  simp only [List.cons.injEq, Sum.inl.injEq] at h
  exact ⟨h.1, h.2.1⟩
theorem mem_kPair {x y : Int} {ks : List (Int × Int)} : kPair x y ∈ ks.map (fun k => kPair k.1 k.2) ↔ (x, y) ∈ ks := by
  rw [List.mem_map]
  constructor
  · rintro ⟨k, hk, e⟩
    obtain ⟨e1, e2⟩ := kPair_inj e
    rw [← e1, ← e2]
    exact hk
  · intro h
    exact ⟨(x, y), h, rfl⟩
theorem ev_dpairs {ks : List (Int × Int)} {f : Int × Int → PyData} (h : EvD K ta σ B (.list (ks.map fun k => .tuple [pairD k, f k]))) : EvR (tCB (rDictT K) (tCons ta tNil)) σ B (DPairs ks) :=
  evR_of (fun S H w Q q => (ea_cons h ea_nil).bind w fun vs B1 H1 e1 eB1 w1 rs => by
    cases rs with
    | cons r1 r2 =>
    cases r2
    cases r1 with
    | @lst a xs _ hs hd =>
    obtain ⟨ts, rfl, ht, hk⟩ := pairs_tups hd
    refine ⟨a, ts, rfl, ex_l w1.ex hs, fun t m => ⟨st_of (w1.ex _ _ (ht t m).1), w1.ex _ _ (ht t m).2⟩, fun p hp => q (.ref p) _ _ (e1.trans (Ex.new hp)) (eB1.trans (w1.newE (o := .dT (mergeT [] (ts.map kvT))) hp)) (w1.new hp) ⟨p, _, rfl, upd_same, fun x y => ?_⟩⟩
    rw [Bool.eq_iff_iff, decide_eq_true_iff, mergeT_iff, List.map_map]
    have e : (ts.map ((fun x => x.1) ∘ kvT)) = ks.map fun k => kPair k.1 k.2 := hk
    rw [e, valV_nil]
    constructor
    · rintro (h | h)
      · cases h
      · exact mem_kPair.mp h
    · exact fun h => .inr (mem_kPair.mpr h)) stays_dpairs
theorem ev_tin {x y : Int} {ks : List (Int × Int)} (ha : EvD K ta σ B (pairD (x, y))) (hd : EvR td σ B (DPairs ks)) : EvD K (tDIn ta td) σ B (.bool (decide ((x, y) ∈ ks))) :=
  evR_of (fun S H w Q q => ha.bind w fun v B1 H1 e1 eB1 w1 rx => (hd.mono eB1).bind w1 fun u B2 H2 e2 eB2 w2 ⟨a, kvs, ey, hy, hk⟩ => by
    cases rx with
    | @tup b zs _ hb hz =>
    have ez := DqAll.ints_eq (ns := [x, y]) hz
    subst ez
    subst ey
    refine ⟨a, _, rfl, .t (k := kPair x y) (w2.ex _ _ hy) (w2.ex _ _ (eB2 _ _ hb)), ?_⟩
    rw [hk]
    exact q _ B2 H2 (e1.trans e2) (eB1.trans eB2) w2 (.bl _)) stays_dp
theorem ev_tnin {x y : Int} {ks : List (Int × Int)} (ha : EvD K ta σ B (pairD (x, y))) (hd : EvR td σ B (DPairs ks)) : EvD K (tDNotIn ta td) σ B (.bool (!decide ((x, y) ∈ ks))) :=
  evR_of (fun S H w Q q => ha.bind w fun v B1 H1 e1 eB1 w1 rx => (hd.mono eB1).bind w1 fun u B2 H2 e2 eB2 w2 ⟨a, kvs, ey, hy, hk⟩ => by
    cases rx with
    | @tup b zs _ hb hz =>
    have ez := DqAll.ints_eq (ns := [x, y]) hz
    subst ez
    subst ey
    refine ⟨a, _, rfl, .t (k := kPair x y) (w2.ex _ _ hy) (w2.ex _ _ (eB2 _ _ hb)), ?_⟩
    rw [hk]
    exact q _ B2 H2 (e1.trans e2) (eB1.trans eB2) w2 (.bl _)) stays_dp

/-! ### slices -/
def EvP (to : TO) (σ : L2.St) (B : Hp) (o : Option Int) : Prop := ∀ S H, Wd S B H → ∀ Q : Option Int → Hp → Prop, (∀ H', Ex H H' → Q o H') → to σ H Q
theorem ep_none : EvP tNoPart σ B none := fun S H w Q q => q H (Ex.refl H)
theorem ep_some {i : Int} (h : EvD K ta σ B (.int i)) : EvP (tPart ta) σ B (some i) := fun S H w Q q => h.bind w fun v B1 H1 e1 eB1 w1 r => by cases r; exact ⟨i, rfl, q H1 e1⟩
theorem EvP.mono {to : TO} {o : Option Int} {B' : Hp} (e : Ex B B') (h : EvP to σ B o) : EvP to σ B' o := fun S H w Q q => h S H (w.back e) Q q
/-- a part of a list of anything -/
def cutA {α : Type} (xs : List α) (lo hi : Option Int) : List α := (xs.drop (HT.sIx xs.length 0 lo)).take (HT.sIx xs.length xs.length hi - HT.sIx xs.length 0 lo)
theorem dqAll_drop : ∀ {n : Nat} {vs : List V} {ds : List PyData}, DqAll K B vs ds → DqAll K B (vs.drop n) (ds.drop n)
  | 0, _, _, h => h
  | _ + 1, _, _, .nil => .nil
  | n + 1, _, _, .cons _ t => dqAll_drop (n := n) t
theorem dqAll_take : ∀ {n : Nat} {vs : List V} {ds : List PyData}, DqAll K B vs ds → DqAll K B (vs.take n) (ds.take n)
  | 0, _, _, _ => .nil
  | _ + 1, _, _, .nil => .nil
  | n + 1, _, _, .cons h t => .cons h (dqAll_take (n := n) t)
theorem dqAll_cut {vs : List V} (h : DqAll K B vs ds) (lo hi : Option Int) : DqAll K B (cutV vs lo hi) (cutA ds lo hi) := by
  unfold cutV cutA
  rw [DqAll.length h]
  exact dqAll_take (dqAll_drop h)
theorem ev_slL {tl th : TO} {lo hi : Option Int} (ha : EvD K ta σ B (.list ds)) (hl : EvP tl σ B lo) (hh : EvP th σ B hi) : EvD K (tSl (rSlL K) ta tl th) σ B (.list (cutA ds lo hi)) :=
  evR_of (fun S H w Q q => ha.bind w fun x B1 H1 e1 eB1 w1 rx => by
    cases rx with
    | @lst a xs _ hs hd =>
    refine hl.mono eB1 S H1 w1 _ fun H2 e2 => (hh.mono eB1) S H2 (w1.ext e2) _ fun H3 e3 => ⟨a, xs, rfl, ex_l (w1.ex.trans (e2.trans e3)) hs, fun p hp => ?_⟩
    have w3 := w1.ext (e2.trans e3)
    exact q (.ref p) _ _ (e1.trans ((e2.trans e3).trans (Ex.new hp))) (eB1.trans (w3.newE (o := .lst (cutV xs lo hi)) hp)) (w3.new hp) (.lst (sq_of upd_same) (DqAll.mono (w3.newE hp) (dqAll_cut hd lo hi)))) stays_dp
theorem ev_slT {tl th : TO} {lo hi : Option Int} (ha : EvD K ta σ B (.tuple ds)) (hl : EvP tl σ B lo) (hh : EvP th σ B hi) (hn : ¬ (HT.sIx ds.length 0 lo = 0 ∧ HT.sIx ds.length ds.length hi = ds.length)) : EvD K (tSl (rSlT K) ta tl th) σ B (.tuple (cutA ds lo hi)) :=
  evR_of (fun S H w Q q => ha.bind w fun x B1 H1 e1 eB1 w1 rx => by
    cases rx with
    | @tup a xs _ hs hd =>
    refine hl.mono eB1 S H1 w1 _ fun H2 e2 => (hh.mono eB1) S H2 (w1.ext e2) _ fun H3 e3 => ⟨a, xs, rfl, st_of (e3 _ _ (e2 _ _ (w1.ex _ _ hs))), by rw [DqAll.length hd]; exact hn, fun p hp => ?_⟩
    have w3 := w1.ext (e2.trans e3)
    exact q (.ref p) _ _ (e1.trans ((e2.trans e3).trans (Ex.new hp))) (eB1.trans (w3.newE (o := .tup (cutV xs lo hi)) hp)) (w3.new hp) (.tup upd_same (DqAll.mono (w3.newE hp) (dqAll_cut hd lo hi)))) stays_dp
/-- tie[:2] -/
theorem ev_pair {t : Tie} (ha : EvD K ta σ B (tieD t)) : EvD K (tSl (rSlT K) ta tNoPart (tPart (tC (.int 2)))) σ B (pairD (t.1, t.2.1)) :=
  ev_slT (lo := none) (hi := some 2) ha ep_none (ep_some (K := K) ev_int) (by show ¬ (HT.sIx 3 0 none = 0 ∧ HT.sIx 3 3 (some 2) = 3); decide)

/-! ### in a list of data; is True; zip -/
theorem ev_inD (ha : EvD K ta σ B d) (hb : EvD K tb σ B (.list ds)) (s1 : SeqAt.shaped d = true) (s2 : SeqAt.shaped (.list ds) = true) : EvD K (tOp (rInD K) ta tb) σ B (.bool (ds.any fun z => PyData.eqv z d)) :=
  ev_op ha hb (fun x y B' H' Q hx hy e q => ⟨d, ds, Dq.dp (Dq.mono e hx), Dq.dp (Dq.mono e hy), s1, s2, q _ (.bl _)⟩) stays_dp
theorem ev_ninD (ha : EvD K ta σ B d) (hb : EvD K tb σ B (.list ds)) (s1 : SeqAt.shaped d = true) (s2 : SeqAt.shaped (.list ds) = true) : EvD K (tOp (rNotInD K) ta tb) σ B (.bool (!ds.any fun z => PyData.eqv z d)) :=
  ev_op ha hb (fun x y B' H' Q hx hy e q => ⟨d, ds, Dq.dp (Dq.mono e hx), Dq.dp (Dq.mono e hy), s1, s2, q _ (.bl _)⟩) stays_dp
theorem ev_isB {a b : Bool} (ha : EvD K ta σ B (.bool a)) (hb : EvD K tb σ B (.bool b)) : EvD K (tOp rIsB ta tb) σ B (.bool (decide (a = b))) :=
  ev_op ha hb (fun x y B' H' Q hx hy e q => by cases hx; cases hy; exact ⟨a, b, rfl, rfl, q _ (.bl _)⟩) stays_dp
theorem ev_notB {a b : Bool} (ha : EvD K ta σ B (.bool a)) (hb : EvD K tb σ B (.bool b)) : EvD K (tOp rNotB ta tb) σ B (.bool (!decide (a = b))) :=
  ev_op ha hb (fun x y B' H' Q hx hy e q => by cases hx; cases hy; exact ⟨a, b, rfl, rfl, q _ (.bl _)⟩) stays_dp
def zipD (ds ds' : List PyData) : List PyData := (ds.zip ds').map fun p => .tuple [p.1, p.2]
theorem wk_zipA {t : Bool} (ha : EvAD K tA σ B [seqD t ds, seqD t ds']) : WkD K (RZ.iZipA K tA) σ B (zipD ds ds') := fun S H w R k => ha.bind w fun vs B1 H1 e1 eB1 w1 rs => by
  have hlen : (zipD ds ds').length = min ds.length ds'.length := by unfold zipD; rw [List.length_map, List.length_zip]
  rw [hlen] at k
  cases rs with
  | cons r1 rs =>
  cases rs with
  | cons r2 rs =>
  cases rs
  cases t with
  | true =>
    cases (show Dq K B1 _ (.tuple ds) from r1) with
    | @tup a xs _ hs hd =>
    cases (show Dq K B1 _ (.tuple ds') from r2) with
    | @tup b ys _ hs2 hd2 =>
    have l1 := DqAll.length hd
    have l2 := DqAll.length hd2
    refine ⟨a, b, xs, ys, rfl, .inr ⟨st_of (w1.ex _ _ hs), st_of (w1.ex _ _ hs2), k _ B1 H1 e1 eB1 w1 (fun i H' e hi => ⟨xs, ys, xs[i]'(by omega), ys[i]'(by omega), st_of (e _ _ hs), st_of (e _ _ hs2), List.getElem?_eq_getElem _, List.getElem?_eq_getElem _⟩) (fun i H' e hi => ⟨xs, ys, st_of (e _ _ hs), st_of (e _ _ hs2), by omega⟩) fun i S' B' H' x H'' eB w' hi y => ?_⟩⟩
    obtain ⟨T, x1, x2, rfl, hT, rfl, f1, f2⟩ := y
    have g1 := f1 _ (st_of ((eB.trans w'.ex) _ _ hs))
    have g2 := f2 _ (st_of ((eB.trans w'.ex) _ _ hs2))
    obtain ⟨d1, p1, q1⟩ := DqAll.get hd g1
    obtain ⟨d2, p2, q2⟩ := DqAll.get hd2 g2
    refine ⟨_, Ex.new hT, w'.newE hT, w'.new hT, .tuple [d1, d2], ?_, .tup upd_same (.cons (Dq.mono (eB.trans (w'.newE hT)) q1) (.cons (Dq.mono (eB.trans (w'.newE hT)) q2) .nil))⟩
    unfold zipD
    rw [List.getElem?_map, List.getElem?_zip_eq_some (z := (d1, d2)).mpr ⟨p1, p2⟩]
    rfl
  | false =>
    cases (show Dq K B1 _ (.list ds) from r1) with
    | @lst a xs _ hs hd =>
    cases (show Dq K B1 _ (.list ds') from r2) with
    | @lst b ys _ hs2 hd2 =>
    have l1 := DqAll.length hd
    have l2 := DqAll.length hd2
    refine ⟨a, b, xs, ys, rfl, .inl ⟨ex_l w1.ex hs, ex_l w1.ex hs2, k _ B1 H1 e1 eB1 w1 (fun i H' e hi => ⟨xs, ys, xs[i]'(by omega), ys[i]'(by omega), ex_l e hs, ex_l e hs2, List.getElem?_eq_getElem _, List.getElem?_eq_getElem _⟩) (fun i H' e hi => ⟨xs, ys, ex_l e hs, ex_l e hs2, by omega⟩) fun i S' B' H' x H'' eB w' hi y => ?_⟩⟩
    obtain ⟨T, x1, x2, rfl, hT, rfl, f1, f2⟩ := y
    have g1 := f1 _ (ex_l (eB.trans w'.ex) hs)
    have g2 := f2 _ (ex_l (eB.trans w'.ex) hs2)
    obtain ⟨d1, p1, q1⟩ := DqAll.get hd g1
    obtain ⟨d2, p2, q2⟩ := DqAll.get hd2 g2
    refine ⟨_, Ex.new hT, w'.newE hT, w'.new hT, .tuple [d1, d2], ?_, .tup upd_same (.cons (Dq.mono (eB.trans (w'.newE hT)) q1) (.cons (Dq.mono (eB.trans (w'.newE hT)) q2) .nil))⟩
    unfold zipD
    rw [List.getElem?_map, List.getElem?_zip_eq_some (z := (d1, d2)).mpr ⟨p1, p2⟩]
    rfl
def rCntB (K : PySem.W.Frag) : V → List V → Hp → VK → Prop := fun x xs H Q => ∃ (p : Addr) (ns : List Bool) (k : Bool), x = .ref p ∧ xs = [.bl k] ∧ SqL K H p (ns.map V.bl) ∧ Q (.int (ns.count k : Nat)) H
theorem ev_cntB {bs : List Bool} {k : Bool} (ha : EvD K ta σ B (.list (bs.map .bool))) (hb : EvD K tb σ B (.bool k)) : EvD K (tBM K "list" (rCntB K) ta (tCons tb tNil)) σ B (.int (bs.count k : Nat)) :=
  evR_of (fun S H w Q q => ha.bind w fun x B1 H1 e1 eB1 w1 rx => by
    cases rx with
    | @lst a xs _ hs hd =>
    have e := DqAll.bools_eq hd
    subst e
    refine ⟨.inl ⟨rfl, _, ex_l w1.ex hs⟩, (hb.mono eB1).bind w1 fun y B2 H2 e2 eB2 w2 ry => ?_⟩
    cases ry
    exact ⟨a, bs, k, rfl, rfl, ex_l (eB2.trans w2.ex) hs, q _ B2 H2 (e1.trans e2) (eB1.trans eB2) w2 (.int _)⟩) stays_dp
def rRng1 : List V → Hp → VK → Prop := fun vs H Q => ∃ j, vs = [V.int j] ∧ ∀ p, H p = none → Q (.ref p) (upd H p (.rng 0 j))
def rListRng : List V → Hp → VK → Prop := fun vs H Q => ∃ (r : Addr) (a b : Int), vs = [V.ref r] ∧ H r = some (.rng a b) ∧ -(2 ^ 61) ≤ a ∧ a < 2 ^ 61 ∧ -(2 ^ 61) ≤ b ∧ b < 2 ^ 61 ∧ (b - a).toNat ≤ 100000 ∧
    ∀ p, H p = none → Q (.ref p) (upd H p (.lst ((List.range (b - a).toNat).map fun (i : Nat) => V.int (a + (i : Int)))))
theorem ev_listrange {j : Int} (h : EvD K ta σ B (.int j)) (hj : -100000 ≤ j ∧ j ≤ 100000) : EvD K (tCB rListRng (tCons (tCB rRng1 (tCons ta tNil)) tNil)) σ B (.list ((rngI 0 j.toNat).map .int)) :=
  evR_of (fun S H w Q q => h.bind w fun x B1 H1 e1 eB1 w1 rx => by
    cases rx
    refine ⟨j, rfl, fun p hp => ⟨p, 0, j, rfl, upd_same, by decide, by decide, by omega, by omega, by omega, fun l hl => ?_⟩⟩
    have w2 := w1.ext (Ex.new (o := .rng 0 j) hp)
    refine q (.ref l) _ _ (e1.trans ((Ex.new hp).trans (Ex.new hl))) (eB1.trans (w2.newE (o := .lst ((List.range (j - 0).toNat).map fun (i : Nat) => V.int (0 + (i : Int)))) hl)) (w2.new hl) (.lst (sq_of upd_same) ?_)
    have e : (List.range (j - 0).toNat).map (fun (i : Nat) => V.int (0 + (i : Int))) = (rngI 0 j.toNat).map V.int := by
      unfold rngI
      rw [List.map_map, Int.sub_zero]
      rfl
    rw [e]
    exact DqAll.ints) stays_dp
theorem sum_take1 {l : List Int} {i : Nat} {a : Int} (h : l[i]? = some a) : (l.take (i + 1)).sum = (l.take i).sum + a := by
  rw [List.take_add_one, h, List.sum_append]
  simp
theorem shaped_ints (ns : List Int) : SeqAt.shaped (.list (ns.map .int)) = true := PySem.W.ke_shaped_ints ns
theorem eqv_refl_ints (ns : List Int) : PyData.eqv (.list (ns.map .int)) (.list (ns.map .int)) = true := SeqAt.eqv_refl _ (SeqAt.canLay_of_shaped (shaped_ints ns))
end
section
variable {K : PySem.W.Frag} {σ : L2.St} {B H : Hp} {S : List Addr} {te ta tb tc : TE}
/-- a < b < c of ints -/
theorem ev_chain {g g' : Int → Int → Bool} {i j k : Int} (ha : EvD K ta σ B (.int i)) (hb : EvD K tb σ B (.int j)) (hc : EvD K tc σ B (.int k)) :
    EvD K (tChain (rI0 fun i j => .bl (g i j)) (rI0 fun i j => .bl (g' i j)) ta tb tc) σ B (.bool (g i j && g' j k)) :=
  evR_of (fun S H w Q q => ha.bind w fun x B1 H1 e1 eB1 w1 rx => (hb.mono eB1).bind w1 fun y B2 H2 e2 eB2 w2 ry => by
    cases rx
    cases ry
    refine ⟨i, j, rfl, rfl, g i j, rfl, ?_⟩
    revert q
    cases hg : g i j with
    | true =>
      intro q
      exact ((hc.mono eB1).mono eB2).bind w2 fun z B3 H3 e3 eB3 w3 rz => (by
        cases rz
        exact ⟨j, k, rfl, rfl, q _ B3 H3 (e1.trans (e2.trans e3)) (eB1.trans (eB2.trans eB3)) w3 (.bl _)⟩)
    | false =>
      intro q
      exact q _ B2 H2 (e1.trans e2) (eB1.trans eB2) w2 (.bl _)) stays_dp
/-- tuples of ints, the lesser one -/
theorem ev_ltT {ns ms : List Int} (ha : EvD K ta σ B (.tuple (ns.map .int))) (hb : EvD K tb σ B (.tuple (ms.map .int))) : EvD K (tOp (rLtT K) ta tb) σ B (.bool (HT.lexLt ns ms)) :=
  ev_op ha hb (fun x y B' H' Q hx hy e q => by
    cases hx with
    | tup h1 h2 =>
    cases hy with
    | tup h3 h4 =>
    have e1 := DqAll.ints_eq h2
    have e2 := DqAll.ints_eq h4
    subst e1 e2
    exact ⟨_, _, ns, ms, rfl, rfl, st_of (e _ _ h1), st_of (e _ _ h3), q _ (.bl _)⟩) stays_dp
end
/-! ### data of bounded depth, for the law's own sameness -/
def okD : Nat → PyData → Bool
  | k + 1, .list xs => decide (xs.length ≤ 40000) && xs.all (okD k)
  | k + 1, .tuple xs => decide (xs.length ≤ 40000) && xs.all (okD k)
  | _, x => atomD x
theorem okD_cases {n : Nat} {x : PyData} (h : okD n x = true) : atomD x = true ∨ ∃ m t xs, n = m + 1 ∧ x = seqD t xs ∧ xs.length ≤ 40000 ∧ ∀ y ∈ xs, okD m y = true := by
  match n, x with
  | 0, .none => exact .inl rfl
  | 0, .bool _ => exact .inl rfl
  | 0, .int _ => exact .inl rfl
  | 0, .str _ => exact .inl rfl
  | 0, .list _ => cases h
  | 0, .tuple _ => cases h
  | 0, .dict _ => cases h
  | _ + 1, .none => exact .inl rfl
  | _ + 1, .bool _ => exact .inl rfl
  | _ + 1, .int _ => exact .inl rfl
  | _ + 1, .str _ => exact .inl rfl
  | k + 1, .list xs =>
    unfold okD at h
    rw [Bool.and_eq_true, decide_eq_true_iff, List.all_eq_true] at h
    exact .inr ⟨k, false, xs, rfl, rfl, h.1, h.2⟩
  | k + 1, .tuple xs =>
    unfold okD at h
    rw [Bool.and_eq_true, decide_eq_true_iff, List.all_eq_true] at h
    exact .inr ⟨k, true, xs, rfl, rfl, h.1, h.2⟩
  | _ + 1, .dict _ => cases h
def fSame (n : Nat) (ds : List PyData) (d : PyData) : Prop := ∃ x, ds = [x, x] ∧ okD n x = true ∧ d = .bool true
theorem kit_seq (t : Bool) (xs : List PyData) : kitB (tyN (seqD t xs)) "list" = some (!t) ∧ kitB (tyN (seqD t xs)) "tuple" = some t := by
  cases t with
  | true => exact (by decide +kernel : kitB "tuple" "list" = some (!true) ∧ kitB "tuple" "tuple" = some true)
  | false => exact (by decide +kernel : kitB "list" "list" = some (!false) ∧ kitB "list" "tuple" = some false)
theorem zip_self {α : Type} : ∀ {xs : List α} {p : α × α}, p ∈ xs.zip xs → p.1 = p.2
  | [], _, h => by cases h
  | x :: r, p, h => by
    rw [List.zip_cons_cons] at h
    rcases List.mem_cons.mp h with rfl | h
    · rfl
    · exact zip_self h
theorem zip_mem {α β : Type} {xs : List α} {ys : List β} {p : α × β} (h : p ∈ xs.zip ys) : p.1 ∈ xs := (List.of_mem_zip h).1
end Pw

/-! ## PwX -/
namespace Pw
open PySem L2 Evl
theorem _root_.L2.Room.units65 {k : Nat} {A : Around} (r : Room k A) : A.units + 65 < cLine := by have := r.un; omega
section
variable {K : PySem.W.Frag} {σ : L2.St} {B H : Hp} {S : List Addr} {b : Addr} {k c : Nat} {te ta tb tl : TE} {tA : TA} {g : TG} {tu : TS} {D : Ends} {ds : List PyData} {d : PyData}
/-- a loop over a list: first the list -/
theorem st_forL (h : tl σ H fun v H1 => tFor (iList K (tC v)) g tu D σ H1) : tFor (iList K tl) g tu D σ H := h
theorem st_forT (h : tl σ H fun v H1 => tFor (iTup K (tC v)) g tu D σ H1) : tFor (iTup K tl) g tu D σ H := h
theorem st_gn {i : Nat} {v : V} {Q : L2.St → Hp → Prop} (h : Q (σ.set i (some v)) H) : gName i v σ H Q := h
theorem st_seq {t u : TS} (h : t { D with nx := u D } σ H) : tSeq t u D σ H := h
/-- own list, one more -/
theorem st_app {i : Nat} {a : Addr} {ys : List V} {R : V → Hp → Prop} (w : Wd S B H) (hi : σ[i]? = some (some (.ref a))) (hA : H a = some (.lst ys)) (hm : a ∈ S) (hl : ys.length ≤ 40000) (he : EvR te σ B R)
    (k : ∀ v B' H', Ex H H' → Ex B B' → Wd S B' (upd H' a (.lst (ys ++ [v]))) → R v B' → D.nx σ (upd H' a (.lst (ys ++ [v])))) : tDrop (tBM K "list" rAppend (tVar i) (tCons te tNil)) D σ H :=
  ⟨_, hi, .inl ⟨rfl, _, sq_of hA⟩, he.bind w fun v B1 H1 e1 eB1 w1 r => ⟨a, ys, v, rfl, rfl, e1 _ _ hA, sz_lt (by omega), k v B1 H1 e1 eB1 (w1.put hm) r⟩⟩
/-- a list at a drawn place -/
theorem ex_ixX {p : Int → Prop} {P : PyData → Prop} (ha : EvD K ta σ B (.list ds)) (hb : EvX S b k tb σ B (IntIn K p)) (hm : ∀ i, p i → ∃ d, atI ds i = some d ∧ P d) : EvX S b k (tOp (rIxL K) ta tb) σ B (fun v B' => ∃ d, P d ∧ Dq K B' v d) :=
  fun H c w hbS hB hl Q q => ha.bind w fun x B1 H1 e1 eB1 w1 hx => (hb.mono eB1).get w1 hbS (hB.ex e1) hl fun i B2 H2 hi x2 eB2 w2 hB2 => by
    obtain ⟨d, hd, hP⟩ := hm i hi
    exact (ev_ixL (ta := tC x) (tb := tC (.int i)) (σ := σ) (ev_c (Dq.mono eB2 hx)) ev_int hd).bind w2 fun v B3 H3 e3 eB3 w3 r => q v H3 ((Xs.of e1).trans (x2.trans (Xs.of e3))) (hB2.ex e3) ⟨d, hP, Dq.mono (ex_mi w3.ex w3.no) r⟩
/-- a list from a drawn place on -/
theorem ex_slL {p : Int → Prop} (ha : EvD K ta σ B (.list ds)) (hb : EvX S b k tb σ B (IntIn K p)) : EvX S b k (tSl (rSlL K) ta (tPart tb) tNoPart) σ B (fun v B' => ∃ i, p i ∧ Dq K B' v (.list (cutA ds (some i) none))) :=
  fun H c w hbS hB hl Q q => ha.bind w fun x B1 H1 e1 eB1 w1 hx => (hb.mono eB1).get w1 hbS (hB.ex e1) hl fun i B2 H2 hi x2 eB2 w2 hB2 => by
    have h3 : tSl (rSlL K) (tC x) (tPart (tC (.int i))) tNoPart σ H2 Q := (ev_slL (ta := tC x) (σ := σ) (tl := tPart (tC (.int i))) (th := tNoPart) (hi := none) (ev_c (Dq.mono eB2 hx)) (ep_some (K := K) ev_int) ep_none).bind w2 (Q := Q) fun v B3 H3 e3 eB3 w3 r => q v H3 ((Xs.of e1).trans (x2.trans (Xs.of e3))) (hB2.ex e3) ⟨i, hi, Dq.mono (ex_mi w3.ex w3.no) r⟩
    obtain ⟨j, ej, h4⟩ := h3
    cases ej
    exact ⟨i, rfl, h4⟩
end
theorem cutA_map {α β : Type} (f : α → β) (xs : List α) (lo hi : Option Int) : cutA (xs.map f) lo hi = (cutA xs lo hi).map f := by
  unfold cutA
  rw [List.length_map, List.map_take, List.map_drop]
theorem cutA_mem {α : Type} {x : α} {xs : List α} {lo hi : Option Int} (h : x ∈ cutA xs lo hi) : x ∈ xs := List.mem_of_mem_drop (List.mem_of_mem_take h)
theorem cutA_len {α : Type} (xs : List α) (lo hi : Option Int) : (cutA xs lo hi).length ≤ xs.length := by
  unfold cutA
  rw [List.length_take, List.length_drop]
  omega
/-- data that can be laid out and is not deep -/
def Shp (n : Nat) (d : PyData) : Prop := d.canLay0 = true ∧ d.depth ≤ n
theorem shp_int {n : Nat} {i : Int} : Shp n (.int i) := ⟨by simp [PyData.canLay0], by simp [PyData.depth]⟩
theorem shp_all {n : Nat} : ∀ {xs : List PyData}, (∀ x ∈ xs, Shp n x) → PyData.canLayAll0 xs = true ∧ PyData.depthAll xs ≤ n
  | [], _ => ⟨by simp [PyData.canLayAll0], by simp [PyData.depthAll]⟩
  | x :: r, h => by
    have h1 := h x List.mem_cons_self
    have h2 := shp_all fun y hy => h y (List.mem_cons_of_mem x hy)
    have h3 := h1.1
    have h4 := h1.2
    have h5 := h2.1
    have h6 := h2.2
    constructor
    · simp [PyData.canLayAll0, h3, h5]
    · simp only [PyData.depthAll]
      omega
theorem shp_list {n : Nat} {xs : List PyData} (h : ∀ x ∈ xs, Shp n x) : Shp (n + 1) (.list xs) := by
  have h1 := shp_all h
  refine ⟨by simp only [PyData.canLay0]; exact h1.1, ?_⟩
  have h2 := h1.2
  simp only [PyData.depth]
  omega
theorem shp_tup {n : Nat} {xs : List PyData} (h : ∀ x ∈ xs, Shp n x) : Shp (n + 1) (.tuple xs) := by
  have h1 := shp_all h
  refine ⟨by simp only [PyData.canLay0]; exact h1.1, ?_⟩
  have h2 := h1.2
  simp only [PyData.depth]
  omega
theorem Shp.shaped {n : Nat} {d : PyData} (h : Shp n d) (hn : n ≤ 64) : SeqAt.shaped d = true := by
  have h1 := h.2
  show (d.canLay0 && decide (d.depth ≤ 64)) = true
  rw [h.1, decide_eq_true (by omega)]
  rfl
theorem shp_pair (k : Int × Int) : Shp 1 (pairD k) := shp_tup fun x hx => by
  simp only [List.mem_cons, List.not_mem_nil, or_false] at hx
  rcases hx with rfl | rfl <;> exact shp_int
theorem shp_pairs (ks : List (Int × Int)) : Shp 2 (.list (ks.map pairD)) := shp_list fun x hx => by
  obtain ⟨k, _, rfl⟩ := List.mem_map.mp hx
  exact shp_pair k
theorem shaped_pair (k : Int × Int) : SeqAt.shaped (pairD k) = true := (shp_pair k).shaped (by decide)
theorem shaped_pairs (ks : List (Int × Int)) : SeqAt.shaped (.list (ks.map pairD)) = true := (shp_pairs ks).shaped (by decide)
theorem eqv_refl' {x : PyData} (h : SeqAt.shaped x = true) : PyData.eqv x x = true := SeqAt.eqv_refl _ (SeqAt.canLay_of_shaped h)
theorem eqv_pair (a b : Int × Int) : PyData.eqv (pairD a) (pairD b) = decide (a = b) := by
  obtain ⟨a1, a2⟩ := a
  obtain ⟨b1, b2⟩ := b
  simp only [pairD, PyData.eqv, PyData.eqvAll]
  by_cases h1 : a1 = b1 <;> by_cases h2 : a2 = b2 <;> simp [h1, h2]
theorem any_eqv (ks : List (Int × Int)) (k : Int × Int) : ((ks.map pairD).any fun z => PyData.eqv z (pairD k)) = decide (k ∈ ks) := by
  rw [List.any_map, Bool.eq_iff_iff, List.any_eq_true, decide_eq_true_iff]
  constructor
  · rintro ⟨x, hx, e⟩
    rw [Function.comp_apply, eqv_pair, decide_eq_true_iff] at e
    exact e ▸ hx
  · intro h
    exact ⟨k, h, by rw [Function.comp_apply, eqv_pair]; exact decide_eq_true rfl⟩
theorem okD_web {n : Int} {ts : List Tie} (h : ts.length ≤ 40000) : okD 4 (webD n ts) = true := by
  show (decide (2 ≤ 40000) && [PyData.int n, .tuple (ts.map tieD)].all (okD 3)) = true
  have h2 : okD 3 (.tuple (ts.map tieD)) = true := by
    show (decide ((ts.map tieD).length ≤ 40000) && (ts.map tieD).all (okD 2)) = true
    rw [List.length_map, decide_eq_true h, List.all_map, Bool.true_and, List.all_eq_true]
    intro t _
    rfl
  simp only [List.all_cons, List.all_nil, h2]
  rfl
end Pw

/-! ## K41Row -/
namespace Pw
open PySem L2 Evl
def topS (i : Nat) : Stmt := PySem.Challenge.pw_partedweb_k41_tables_of_small_trees.main.body.getD i (.Pass ⟨0, 0, 0, 0⟩)
abbrev s_beside : Stmt := topS 1
abbrev ps_beside : List Str := ["web"]
abbrev nm_beside : List Str := ["web", "found", "a", "b", "weight", "place"]
abbrev s_hung : Stmt := topS 3
abbrev ps_hung : List Str := ["web"]
abbrev nm_hung : List Str := ["web", "near", "above", "order", "at", "place", "other"]
abbrev s_weights_above : Stmt := topS 4
abbrev ps_weights_above : List Str := ["web", "above"]
abbrev nm_weights_above : List Str := ["web", "above", "found", "a", "b", "weight"]
abbrev s_cheapest : Stmt := topS 5
abbrev ps_cheapest : List Str := ["row", "weight", "at"]
abbrev nm_cheapest : List Str := ["row", "weight", "at", "k", "cost"]
abbrev s_first_row : Stmt := topS 6
abbrev ps_first_row : List Str := ["posts", "place"]
abbrev nm_first_row : List Str := ["posts", "place", "post"]
abbrev s_row_above : Stmt := topS 7
abbrev ps_row_above : List Str := ["rows", "weights", "posts", "place", "behind"]
abbrev nm_row_above : List Str := ["rows", "weights", "posts", "place", "behind", "row", "other", "more", "at", "cost", "extra"]
abbrev s_places_behind : Stmt := topS 8
abbrev ps_places_behind : List Str := ["order", "above"]
abbrev nm_places_behind : List Str := ["order", "above", "found", "place"]
abbrev s_table_of : Stmt := topS 9
abbrev ps_table_of : List Str := ["web", "posts"]
abbrev nm_table_of : List Str := ["web", "posts", "order", "above", "weights", "behind", "table", "place"]
abbrev s_least_of : Stmt := topS 10
abbrev ps_least_of : List Str := ["row"]
abbrev nm_least_of : List Str := ["row"]
abbrev s_least_on_tree : Stmt := topS 11
abbrev ps_least_on_tree : List Str := ["web", "posts"]
abbrev nm_least_on_tree : List Str := ["web", "posts", "order", "above", "weights", "table", "numbers", "place", "at", "row", "k", "cost"]
abbrev s_law_cell_at : Stmt := topS 13
abbrev ps_law_cell_at : List Str := ["_law_script", "_law_k"]
abbrev nm_law_cell_at : List Str := ["_law_script", "_law_k"]
abbrev s_law_box : Stmt := topS 14
abbrev ps_law_box : List Str := ["_law_script", "_law_k"]
abbrev nm_law_box : List Str := ["_law_script", "_law_k", "_law_cell"]
abbrev s_law_take : Stmt := topS 15
abbrev ps_law_take : List Str := ["_law_box_here", "_law_many"]
abbrev nm_law_take : List Str := ["_law_box_here", "_law_many", "_law_found", "_law_once", "_law_twice"]
abbrev s_law_weight : Stmt := topS 16
abbrev ps_law_weight : List Str := ["_law_box_here", "_law_heavy"]
abbrev nm_law_weight : List Str := ["_law_box_here", "_law_heavy"]
abbrev s_law_tree : Stmt := topS 17
abbrev ps_law_tree : List Str := ["_law_box_here", "_law_many"]
abbrev nm_law_tree : List Str := ["_law_box_here", "_law_many", "_law_heavy", "_law_way", "_law_names", "_law_place", "_law_ties", "_law_one", "_law_other"]
abbrev s_law_posts : Stmt := topS 18
abbrev ps_law_posts : List Str := ["_law_box_here", "_law_many", "_law_most"]
abbrev nm_law_posts : List Str := ["_law_box_here", "_law_many", "_law_most", "_law_some", "_law_found", "_law_turn"]
abbrev s_law_same : Stmt := topS 19
abbrev ps_law_same : List Str := ["_law_found", "_law_due"]
abbrev nm_law_same : List Str := ["_law_found", "_law_due", "_law_one", "_law_other"]
abbrev s_law_hung : Stmt := topS 20
abbrev ps_law_hung : List Str := ["_law_web"]
abbrev nm_law_hung : List Str := ["_law_web", "_law_found", "_law_met", "_law_a", "_law_b", "_law_weight_here", "_law_one", "_law_other"]
abbrev s_law_within : Stmt := topS 21
abbrev ps_law_within : List Str := ["_law_web", "_law_place"]
abbrev nm_law_within : List Str := ["_law_web", "_law_place", "_law_some", "_law_other", "_law_above", "_law_weight_here", "_law_tie"]
abbrev s_law_least_of : Stmt := topS 22
abbrev ps_law_least_of : List Str := ["_law_some", "_law_ties", "_law_posts_here", "_law_first"]
abbrev nm_law_least_of : List Str := ["_law_some", "_law_ties", "_law_posts_here", "_law_first", "_law_rows", "_law_place", "_law_longer", "_law_row", "_law_owner", "_law_made", "_law_tie"]
abbrev s_law_row_due : Stmt := topS 23
abbrev ps_law_row_due : List Str := ["_law_web", "_law_posts_here", "_law_place"]
abbrev nm_law_row_due : List Str := ["_law_web", "_law_posts_here", "_law_place", "_law_some", "_law_ties", "_law_row", "_law_post"]
abbrev s_law_otherwise : Stmt := topS 24
abbrev ps_law_otherwise : List Str := ["_law_web", "_law_place"]
abbrev nm_law_otherwise : List Str := ["_law_web", "_law_place", "_law_some", "_law_ties", "_law_tie"]
abbrev s_law_right : Stmt := topS 25
abbrev ps_law_right : List Str := ["_law_box_here"]
abbrev nm_law_right : List Str := ["_law_box_here", "_law_web", "_law_posts_here", "_law_weight_here", "_law_owners", "_law_table", "_law_due", "_law_place", "_law_cost"]
abbrev s_law : Stmt := topS 26
abbrev ps_law : List Str := ["_law_script"]
abbrev nm_law : List Str := ["_law_script", "_law_k"]
/-- the built-ins that the module does not bind -/
structure Txt (mg : Str → Option Value) : Prop where
  m_len : mg "len" = none
  m_abs : mg "abs" = none
  m_int : mg "int" = none
  m_dict : mg "dict" = none
  m_sum : mg "sum" = none
  m_range : mg "range" = none
  m_min : mg "min" = none
  m_max : mg "max" = none
  m_tuple : mg "tuple" = none
  m_sorted : mg "sorted" = none
  m_isinstance : mg "isinstance" = none
  m_list : mg "list" = none
  m_str : mg "str" = none
  m_bool : mg "bool" = none
  m_all : mg "all" = none
  m_any : mg "any" = none
  m_zip : mg "zip" = none
  m_enumerate : mg "enumerate" = none
  m_reversed : mg "reversed" = none
  m_set : mg "set" = none
/-- the defs of the text -/
structure Defs (K : PySem.W.Frag) (mg : Str → Option Value) : Prop where
  d_beside : ∃ f fd, Dfn K mg "beside" s_beside ps_beside f fd
  d_hung : ∃ f fd, Dfn K mg "hung" s_hung ps_hung f fd
  d_weights_above : ∃ f fd, Dfn K mg "weights_above" s_weights_above ps_weights_above f fd
  d_cheapest : ∃ f fd, Dfn K mg "cheapest" s_cheapest ps_cheapest f fd
  d_first_row : ∃ f fd, Dfn K mg "first_row" s_first_row ps_first_row f fd
  d_row_above : ∃ f fd, Dfn K mg "row_above" s_row_above ps_row_above f fd
  d_places_behind : ∃ f fd, Dfn K mg "places_behind" s_places_behind ps_places_behind f fd
  d_table_of : ∃ f fd, Dfn K mg "table_of" s_table_of ps_table_of f fd
  d_least_of : ∃ f fd, Dfn K mg "least_of" s_least_of ps_least_of f fd
  d_least_on_tree : ∃ f fd, Dfn K mg "least_on_tree" s_least_on_tree ps_least_on_tree f fd
  d_law_cell_at : ∃ f fd, Dfn K mg "_law_cell_at" s_law_cell_at ps_law_cell_at f fd
  d_law_box : ∃ f fd, Dfn K mg "_law_box" s_law_box ps_law_box f fd
  d_law_take : ∃ f fd, Dfn K mg "_law_take" s_law_take ps_law_take f fd
  d_law_weight : ∃ f fd, Dfn K mg "_law_weight" s_law_weight ps_law_weight f fd
  d_law_tree : ∃ f fd, Dfn K mg "_law_tree" s_law_tree ps_law_tree f fd
  d_law_posts : ∃ f fd, Dfn K mg "_law_posts" s_law_posts ps_law_posts f fd
  d_law_same : ∃ f fd, Dfn K mg "_law_same" s_law_same ps_law_same f fd
  d_law_hung : ∃ f fd, Dfn K mg "_law_hung" s_law_hung ps_law_hung f fd
  d_law_within : ∃ f fd, Dfn K mg "_law_within" s_law_within ps_law_within f fd
  d_law_least_of : ∃ f fd, Dfn K mg "_law_least_of" s_law_least_of ps_law_least_of f fd
  d_law_row_due : ∃ f fd, Dfn K mg "_law_row_due" s_law_row_due ps_law_row_due f fd
  d_law_otherwise : ∃ f fd, Dfn K mg "_law_otherwise" s_law_otherwise ps_law_otherwise f fd
  d_law_right : ∃ f fd, Dfn K mg "_law_right" s_law_right ps_law_right f fd
end Pw

/-! ## PwConn -/
namespace Pw
open PySem L2 Evl
/-! ### what hangs together -/
def Adj (ts : List Tie) (x y : Int) : Prop := ∃ t ∈ ts, t.1 = x ∧ t.2.1 = y ∨ t.1 = y ∧ t.2.1 = x
theorem Adj.symm {ts : List Tie} {x y : Int} (h : Adj ts x y) : Adj ts y x := h.elim fun t ⟨h1, h2⟩ => ⟨t, h1, h2.symm⟩
inductive Conn (ts : List Tie) (x : Int) : Int → Prop
  | refl : Conn ts x x
  | tail {y z : Int} : Conn ts x y → Adj ts y z → Conn ts x z
theorem Conn.trans {ts : List Tie} {x y z : Int} (h1 : Conn ts x y) (h2 : Conn ts y z) : Conn ts x z := by
  induction h2 with
  | refl => exact h1
  | tail _ a ih => exact ih.tail a
theorem Conn.symm {ts : List Tie} {x y : Int} (h : Conn ts x y) : Conn ts y x := by
  induction h with
  | refl => exact .refl
  | tail _ a ih => exact (Conn.tail .refl a.symm).trans ih
/-- ties within n places -/
def TiesIn (n : Int) (ts : List Tie) : Prop := ∀ t ∈ ts, 0 ≤ t.1 ∧ t.1 < t.2.1 ∧ t.2.1 < n
theorem WebOk.ins {n : Int} {ts : List Tie} (h : WebOk n ts) : TiesIn n ts := fun t ht => ⟨(h.tie t ht).1, (h.tie t ht).2.1, (h.tie t ht).2.2.1⟩
theorem Conn.range {n : Int} {ts : List Tie} (h : TiesIn n ts) {x y : Int} (c : Conn ts x y) (hx : 0 ≤ x ∧ x < n) : 0 ≤ y ∧ y < n := by
  induction c with
  | refl => exact hx
  | tail _ a _ =>
    obtain ⟨t, ht, e⟩ := a
    have := h t ht
    omega
def nb (ts : List Tie) (p : Int) : List Int := ts.flatMap fun t => if t.1 = p then [t.2.1] else if t.2.1 = p then [t.1] else []
theorem nb_mem {n : Int} {ts : List Tie} (h : TiesIn n ts) {p y : Int} : y ∈ nb ts p ↔ Adj ts p y := by
  unfold nb
  rw [List.mem_flatMap]
  constructor
  · rintro ⟨t, ht, hy⟩
    refine ⟨t, ht, ?_⟩
    by_cases h1 : t.1 = p
    · rw [if_pos h1, List.mem_singleton] at hy
      exact .inl ⟨h1, hy.symm⟩
    · rw [if_neg h1] at hy
      by_cases h2 : t.2.1 = p
      · rw [if_pos h2, List.mem_singleton] at hy
        exact .inr ⟨hy.symm, h2⟩
      · rw [if_neg h2] at hy
        cases hy
  · rintro ⟨t, ht, hy⟩
    refine ⟨t, ht, ?_⟩
    have := h t ht
    rcases hy with ⟨h1, h2⟩ | ⟨h1, h2⟩
    · rw [if_pos h1, h2]
      exact List.mem_singleton.mpr rfl
    · rw [if_neg (by omega), if_pos h2, h1]
      exact List.mem_singleton.mpr rfl
theorem nb_snoc (ts : List Tie) (t : Tie) (p : Int) : nb (ts ++ [t]) p = nb ts p ++ (if t.1 = p then [t.2.1] else if t.2.1 = p then [t.1] else []) := by
  unfold nb
  rw [List.flatMap_append, List.flatMap_singleton]
theorem nb_len (ts : List Tie) (p : Int) : (nb ts p).length ≤ ts.length := by
  induction ts with
  | nil => exact Nat.le_refl _
  | cons t r ih =>
    unfold nb at ih ⊢
    rw [List.flatMap_cons, List.length_append, List.length_cons]
    have : (if t.1 = p then [t.2.1] else if t.2.1 = p then [t.1] else []).length ≤ 1 := by
      split
      · exact Nat.le_refl _
      · split
        · exact Nat.le_refl _
        · exact Nat.zero_le _
    omega
theorem rngI_lt (lo : Int) (n : Nat) : (rngI lo n).Pairwise (· < ·) := by
  unfold rngI
  rw [List.pairwise_map]
  exact List.pairwise_lt_range.imp fun h => by omega
theorem sorted_eq : ∀ {l m : List Int}, l.Pairwise (· < ·) → m.Pairwise (· < ·) → (∀ x, x ∈ l ↔ x ∈ m) → l = m
  | [], [], _, _, _ => rfl
  | [], b :: m, _, _, h => by cases (h b).mpr List.mem_cons_self
  | a :: l, [], _, _, h => by cases (h a).mp List.mem_cons_self
  | a :: l, b :: m, h1, h2, h => by
    rw [List.pairwise_cons] at h1 h2
    have e : a = b := by
      rcases List.mem_cons.mp ((h a).mp List.mem_cons_self) with e | e
      · exact e
      · rcases List.mem_cons.mp ((h b).mpr List.mem_cons_self) with e' | e'
        · exact e'.symm
        · have := h2.1 a e
          have := h1.1 b e'
          omega
    subst e
    congr 1
    refine sorted_eq h1.2 h2.2 fun x => ?_
    constructor
    · intro hx
      rcases List.mem_cons.mp ((h x).mp (List.mem_cons_of_mem _ hx)) with e | e
      · subst e
        exact absurd (h1.1 x hx) (by omega)
      · exact e
    · intro hx
      rcases List.mem_cons.mp ((h x).mpr (List.mem_cons_of_mem _ hx)) with e | e
      · subst e
        exact absurd (h2.1 x hx) (by omega)
      · exact e
theorem sorted_of {ys ks : List Int} (h : ys.Perm ks) (hs : ys.Pairwise (· ≤ ·)) (hn : ks.Nodup) : ys.Pairwise (· < ·) := by
  have h1 : ys.Nodup := h.nodup_iff.mpr hn
  exact (hs.and h1).imp fun ⟨a, b⟩ => by omega
/-- the places that hang on one -/
noncomputable def comp (n : Int) (ts : List Tie) (p : Int) : List Int := (rngI 0 n.toNat).filter fun x => @decide (Conn ts p x) (Classical.propDecidable _)
theorem comp_mem {n : Int} {ts : List Tie} {p x : Int} : x ∈ comp n ts p ↔ (0 ≤ x ∧ x < n) ∧ Conn ts p x := by
  unfold comp
  rw [List.mem_filter, rngI_mem, @decide_eq_true_iff _ (Classical.propDecidable _)]
  constructor
  · rintro ⟨h1, h2⟩
    exact ⟨by omega, h2⟩
  · rintro ⟨h1, h2⟩
    exact ⟨by omega, h2⟩
theorem comp_lt (n : Int) (ts : List Tie) (p : Int) : (comp n ts p).Pairwise (· < ·) := (rngI_lt _ _).filter _
theorem comp_len (n : Int) (ts : List Tie) (p : Int) : (comp n ts p).length ≤ n.toNat := Nat.le_trans (List.length_filter_le _ _) (by rw [rngI_len]; exact Nat.le_refl _)
/-- how many unlike numbers below n there can be -/
theorem few_in : ∀ {n : Nat} {ks : List Int}, ks.Nodup → (∀ k ∈ ks, 0 ≤ k ∧ k < (n : Int)) → ks.length ≤ n
  | 0, [], _, _ => Nat.le_refl _
  | 0, k :: _, _, h => by
    have := h k List.mem_cons_self
    omega
  | n + 1, ks, h1, h2 => by
    have h3 := few_in (n := n) (ks := ks.erase (n : Int)) (h1.erase _) fun k hk => by
      have h4 := (h1.mem_erase_iff).mp hk
      have h5 := h2 k h4.2
      have h6 := h4.1
      omega
    rw [List.length_erase] at h3
    split at h3 <;> omega
/-- what a walk over all ties keeps for the places: the least of those that hang together -/
structure Firsts (n : Int) (ts : List Tie) (fs : List Int) : Prop where
  len : fs.length = n.toNat
  conn : ∀ (i : Nat) (x : Int), fs[i]? = some x → Conn ts (i : Int) x ∧ 0 ≤ x ∧ x ≤ (i : Int)
def Least (ts : List Tie) (p : Int) : Prop := ∀ y, 0 ≤ y → Conn ts p y → p ≤ y
noncomputable def leastB (ts : List Tie) (p : Int) : Bool := @decide (Least ts p) (Classical.propDecidable _)
theorem leastB_iff {ts : List Tie} {p : Int} : leastB ts p = true ↔ Least ts p := @decide_eq_true_iff _ (Classical.propDecidable _)
noncomputable def parts (n : Int) (ts : List Tie) : List (List Int) := ((rngI 0 n.toNat).filter (leastB ts)).map (comp n ts)
/-- the ties that are not in a cut -/
def outside (ts : List Tie) (ks : List (Int × Int)) : List Tie := ts.filter fun t => !decide ((t.1, t.2.1) ∈ ks)
theorem out_nil (ts : List Tie) : outside ts [] = ts := List.filter_eq_self.mpr fun t _ => by simp
theorem out_in {n : Int} {ts : List Tie} (h : TiesIn n ts) (ks : List (Int × Int)) : TiesIn n (outside ts ks) := fun t ht => h t (List.mem_filter.mp ht).1
theorem out_web {n : Int} {ts : List Tie} (h : WebOk n ts) (ks : List (Int × Int)) : WebOk n (outside ts ks) := ⟨h.pos, fun t ht => h.tie t (List.mem_filter.mp ht).1, h.rise.filter _, Nat.le_trans (List.length_filter_le _ _) h.len⟩
theorem out_mem {ts : List Tie} {ks : List (Int × Int)} {i : Nat} {t u : Tie} (h : ts[i]? = some t) : u ∈ outside (ts.take (i + 1)) ks ↔ u ∈ outside (ts.take i) ks ∨ (u = t ∧ ¬ (t.1, t.2.1) ∈ ks) := by
  unfold outside
  rw [List.take_add_one, h, Option.toList_some, List.filter_append, List.mem_append]
  by_cases q : (t.1, t.2.1) ∈ ks
  · simp [q]
  · simp [q]
end Pw

/-! ## PwNear -/
namespace Pw
open PySem L2 Evl
section
variable {K : PySem.W.Frag} {σ : L2.St} {B H : Hp} {S : List Addr} {te ta tb tl : TE} {tt : TT} {tA : TA} {wi : TI} {g : TG} {tu : TS} {D : Ends} {ds : List PyData} {d : PyData}
theorem g_tie {j1 j2 j3 : Nat} {t : Tie} {x : V} {Q : L2.St → Hp → Prop} (hx : Dq K B x (tieD t)) (e : Ex B H) (q : Q (((σ.set j1 (some (.int t.1))).set j2 (some (.int t.2.1))).set j3 (some (.int t.2.2))) H) :
    gTup K 3 (gCons (gName j1) (gCons (gName j2) (gCons (gName j3) gNil))) x σ H Q := by
  cases hx with
  | tup hs hd =>
  cases hd with
  | cons h1 t =>
  cases t with
  | cons h2 t =>
  cases t with
  | cons h3 t =>
  cases t
  cases h1
  cases h2
  cases h3
  exact ⟨_, _, rfl, st_of (e _ _ hs), rfl, _, _, rfl, _, _, rfl, _, _, rfl, rfl, q⟩
theorem st_set {i : Nat} (h : te σ H fun v H' => D.nx (σ.set i (some v)) H') : tAsg te (gName i) D σ H := h
theorem dqAll_of : ∀ {vs : List V} {ds : List PyData}, vs.length = ds.length → (∀ (j : Nat) v d, vs[j]? = some v → ds[j]? = some d → Dq K B v d) → DqAll K B vs ds
  | [], [], _, _ => .nil
  | [], _ :: _, h, _ => by cases h
  | _ :: _, [], h, _ => by cases h
  | v :: vs, d :: ds, h, f => .cons (f 0 v d rfl rfl) (dqAll_of (Nat.succ.inj h) fun j v d h1 h2 => f (j + 1) v d h1 h2)
/-- [[] for _ in ..]: lists of their own -/
theorem lists_lc {l : List PyData} {vs : List Nat} {j : Nat} (hk : WkD K wi σ B l) (hl : l.length ≤ 40000) (hv : ∀ x, wipe ((wipe σ vs).set j (some x)) vs = wipe σ vs) (w : Wd S B H) {Q : VK}
    (q : ∀ L ps H', Ex H H' → H' L = some (.lst (ps.map V.ref)) → ps.length = l.length → (L :: ps).Nodup → (∀ p ∈ ps, H' p = some (.lst [])) → (∀ p ∈ L :: ps, H p = none) → Q (.ref L) H') :
    tLc wi (gName j) tYes (tLst tNil) vs σ H Q := by
  refine hk S H w _ fun J B1 H1 e1 eB1 w1 hgo hstop hyld Dl hD => ?_
  refine ⟨fun i m H' => m = l.length - i ∧ i ≤ l.length ∧ Ex H1 H' ∧ ∃ B' ps, Ex B1 B' ∧ Wd (Dl :: S) B' H' ∧ H' Dl = some (.lst (ps.map V.ref)) ∧ ps.length = i ∧ (Dl :: ps).Nodup ∧ (∀ p ∈ ps, H' p = some (.lst [])) ∧ ∀ p ∈ ps, H1 p = none,
    ⟨l.length, by omega, Nat.zero_le _, Ex.new hD, B1, [], Ex.refl _, w1.own hD, upd_same, rfl, List.nodup_cons.mpr ⟨(fun h => by cases h), List.nodup_nil⟩, (fun p h => by cases h), (fun p h => by cases h)⟩, ?_⟩
  rintro i m H2 ⟨rfl, hi, eH, B2, ps, eB2, w2, hA, hpl, hnd, hps, hfr⟩
  by_cases hlt : i < l.length
  · refine .inr ⟨hgo i H2 (eB2.trans w2.ex) hlt, fun H' => Ex H1 H' ∧ ∃ B' ps, Ex B1 B' ∧ Wd (Dl :: S) B' H' ∧ H' Dl = some (.lst (ps.map V.ref)) ∧ ps.length = i + 1 ∧ (Dl :: ps).Nodup ∧ (∀ p ∈ ps, H' p = some (.lst [])) ∧ ∀ p ∈ ps, H1 p = none,
      fun H' h => ⟨l.length - (i + 1), by omega, rfl, by omega, h⟩, fun x H3 hy => ?_⟩
    obtain ⟨B3, e3, eB3, w3, d, hd1, hd2⟩ := hyld i (Dl :: S) B2 H2 x H3 eB2 w2 hlt hy
    refine ⟨hv _, ?_⟩
    refine ⟨by decide, fun p hp => ?_⟩
    have hA3 := e3 _ _ hA
    have npD : p ≠ Dl := (ne_of_none hA3 hp).symm
    have hp1 : H1 p = none := fresh_back (eH.trans e3) hp
    have npp : p ∉ ps := fun z => by
      rw [e3 _ _ (hps p z)] at hp
      cases hp
    refine ⟨ps.map V.ref, (by rw [upd_ne npD.symm]; exact hA3), sz_lt (by rw [List.length_map]; omega), ?_, B3, ps ++ [p], eB2.trans eB3, ((w3.ext (Ex.new hp))).put List.mem_cons_self, ?_, by rw [List.length_append, hpl]; rfl, ?_, ?_, ?_⟩
    · exact ((eH.trans e3).trans (Ex.new hp)).mut hD
    · rw [List.map_append]
      exact upd_same
    · rw [List.nodup_cons] at hnd ⊢
      refine ⟨fun z => ?_, ?_⟩
      · rcases List.mem_append.mp z with z | z
        · exact hnd.1 z
        · exact npD (List.mem_singleton.mp z).symm
      · rw [List.nodup_append]
        refine ⟨hnd.2, List.nodup_cons.mpr ⟨fun h => (by cases h), List.nodup_nil⟩, fun a ha b hb => ?_⟩
        rw [List.mem_singleton.mp hb]
        exact fun z => npp (z ▸ ha)
    · intro q' hq'
      rw [List.nodup_cons] at hnd
      rcases List.mem_append.mp hq' with z | z
      · have q1 : q' ≠ Dl := fun y => hnd.1 (by rw [← y]; exact z)
        have q2 : q' ≠ p := fun y => npp (by rw [← y]; exact z)
        rw [upd_ne q1, upd_ne q2]
        exact e3 _ _ (hps q' z)
      · rw [List.mem_singleton.mp z, upd_ne npD]
        exact upd_same
    · intro q' hq'
      rcases List.mem_append.mp hq' with z | z
      · exact hfr q' z
      · rw [List.mem_singleton.mp z]
        exact hp1
  · have ei : i = l.length := by omega
    refine .inl ⟨hstop _ H2 (eB2.trans w2.ex) (by omega), q _ ps _ (e1.trans eH) hA (by omega) hnd hps fun p hp => ?_⟩
    rcases List.mem_cons.mp hp with rfl | hp
    · exact fresh_back e1 hD
    · exact fresh_back e1 (hfr p hp)
theorem nodup_at {ps : List Addr} (h : ps.Nodup) {i j : Nat} {p : Addr} (hi : ps[i]? = some p) (hj : ps[j]? = some p) : i = j := by
  obtain ⟨a, b⟩ := List.getElem?_eq_some_iff.mp hi
  obtain ⟨c, d⟩ := List.getElem?_eq_some_iff.mp hj
  have h2 := List.pairwise_iff_getElem.mp h
  rcases Nat.lt_trichotomy i j with q | q | q
  · exact absurd (b.trans d.symm) (h2 i j a c q)
  · exact q
  · exact absurd (d.trans b.symm) (h2 j i c a q)
/-- found[a].append(b) -/
theorem st_appAt {i ja jb : Nat} {L p : Addr} {ps : List Addr} {ys : List V} {k : Int} {v : V} (hi : σ[i]? = some (some (.ref L))) (hja : σ[ja]? = some (some (.int k))) (hjb : σ[jb]? = some (some v)) (hL : H L = some (.lst (ps.map V.ref)))
    (hat : atI (ps.map V.ref) k = some (.ref p)) (hp : H p = some (.lst ys)) (hl : ys.length ≤ 40000) (q : D.nx σ (upd H p (.lst (ys ++ [v])))) : tDrop (tBM K "list" rAppend (tOp (rIxL K) (tVar i) (tVar ja)) (tCons (tVar jb) tNil)) D σ H :=
  ⟨_, hi, _, hja, L, _, k, _, rfl, rfl, sq_of hL, hat, .inl ⟨rfl, _, sq_of hp⟩, _, hjb, p, ys, v, rfl, rfl, hp, sz_lt (by omega), q⟩
theorem atI_at {α : Type} {xs : List α} {k : Int} {x : α} (h0 : 0 ≤ k) (h : xs[k.toNat]? = some x) : atI xs k = some x := by
  have e : k = ((k.toNat : Nat) : Int) := by omega
  rw [e]
  exact atI_nat h
/-- worlds with more that is one's own -/
theorem Wd.owns {ps : List Addr} {H' : Hp} (w : Wd S B H) (e : Ex H H') (hn : ∀ p ∈ ps, H p = none) (hd : ∀ p ∈ ps, ∃ o, H' p = some o) : Wd (ps ++ S) B H' := by
  refine ⟨w.ex.trans e, fun s m => ?_, fun s m => ?_⟩
  · rcases List.mem_append.mp m with m | m
    · exact w.fresh (hn s m)
    · exact w.no s m
  · rcases List.mem_append.mp m with m | m
    · exact hd s m
    · exact (w.ext e).at_ s m
end
def nearD (n : Int) (ts : List Tie) : PyData := .list ((rngI 0 n.toNat).map fun p => .list ((nb ts p).map .int))
end Pw

/-! ## PwWalk -/
namespace Pw
open PySem L2 Evl
theorem isSome_iff {κ : Type} [DecidableEq κ] (k : κ) : ∀ kvs : List (κ × V), (valV kvs k).isSome = true ↔ k ∈ kvs.map (·.1)
  | [] => by simp [valV_nil]
  | p :: r => by
    by_cases h : p.1 = k
    · rw [valV_pos h]
      simp [h]
    · rw [valV_neg h, isSome_iff k r, List.map_cons, List.mem_cons]
      exact ⟨.inr, fun z => z.elim (fun e => absurd e.symm h) id⟩
theorem putK_new {κ : Type} [DecidableEq κ] {kvs : List (κ × V)} {k : κ} {v : V} (h : ¬ k ∈ kvs.map (·.1)) : (putK kvs k v).map (·.1) = kvs.map (·.1) ++ [k] := by
  unfold putK
  rw [if_neg, List.map_append]
  · rfl
  · intro q
    obtain ⟨x, hx, e⟩ := List.any_eq_true.mp q
    exact h (List.mem_map.mpr ⟨x, hx, of_decide_eq_true e⟩)
/-- a walk from place to place, on its way -/
structure Walk (n : Int) (ts : List Tie) (p : Int) (ks ws : List Int) : Prop where
  nodup : ks.Nodup
  inn : ∀ k ∈ ks, 0 ≤ k ∧ k < n
  conn : ∀ k ∈ ks, Conn ts p k
  start : p ∈ ks
  sub : ∀ x ∈ ws, x ∈ ks
  closed : ∀ x ∈ ks, x ∉ ws → ∀ y, Adj ts x y → y ∈ ks
/-- one place being looked at -/
structure WalkIn (n : Int) (ts : List Tie) (p x : Int) (done : List Int) (ks ws : List Int) : Prop where
  nodup : ks.Nodup
  inn : ∀ k ∈ ks, 0 ≤ k ∧ k < n
  conn : ∀ k ∈ ks, Conn ts p k
  start : p ∈ ks
  sub : ∀ x ∈ ws, x ∈ ks
  here : x ∈ ks
  closed : ∀ z ∈ ks, z ∉ ws → z ≠ x → ∀ y, Adj ts z y → y ∈ ks
  seen : ∀ y ∈ done, y ∈ ks
theorem Walk.pop {n : Int} {ts : List Tie} {p x : Int} {ks ws : List Int} (h : Walk n ts p ks (ws ++ [x])) : WalkIn n ts p x [] ks ws :=
  ⟨h.nodup, h.inn, h.conn, h.start, fun y hy => h.sub y (List.mem_append_left _ hy), h.sub x (List.mem_append_right _ (List.mem_singleton.mpr rfl)), fun z hz hw hx => h.closed z hz fun m => (List.mem_append.mp m).elim hw fun e => hx (List.mem_singleton.mp e), fun y hy => by cases hy⟩
theorem WalkIn.old {n : Int} {ts : List Tie} {p x y : Int} {done ks ws : List Int} (h : WalkIn n ts p x done ks ws) (hy : y ∈ ks) : WalkIn n ts p x (done ++ [y]) ks ws :=
  ⟨h.nodup, h.inn, h.conn, h.start, h.sub, h.here, h.closed, fun z hz => (List.mem_append.mp hz).elim (h.seen z) fun e => List.mem_singleton.mp e ▸ hy⟩
theorem WalkIn.new {n : Int} {ts : List Tie} {p x y : Int} {done ks ws : List Int} (h : WalkIn n ts p x done ks ws) (hi : TiesIn n ts) (ha : Adj ts x y) (hy : ¬ y ∈ ks) : WalkIn n ts p x (done ++ [y]) (ks ++ [y]) (ws ++ [y]) := by
  refine ⟨?_, fun k hk => ?_, fun k hk => ?_, List.mem_append_left _ h.start, fun z hz => ?_, List.mem_append_left _ h.here, fun z hz hw hx u hu => ?_, fun z hz => ?_⟩
  · rw [List.nodup_append]
    exact ⟨h.nodup, List.nodup_cons.mpr ⟨fun q => (by cases q), List.nodup_nil⟩, fun a ha b hb e => hy (by rw [← List.mem_singleton.mp hb, ← e]; exact ha)⟩
  · rcases List.mem_append.mp hk with hk | hk
    · exact h.inn k hk
    · rw [List.mem_singleton.mp hk]
      exact (Conn.tail .refl ha).range hi (h.inn x h.here)
  · rcases List.mem_append.mp hk with hk | hk
    · exact h.conn k hk
    · rw [List.mem_singleton.mp hk]
      exact (h.conn x h.here).tail ha
  · rcases List.mem_append.mp hz with hz | hz
    · exact List.mem_append_left _ (h.sub z hz)
    · exact List.mem_append_right _ hz
  · rcases List.mem_append.mp hz with hz | hz
    · exact List.mem_append_left _ (h.closed z hz (fun m => hw (List.mem_append_left _ m)) hx u hu)
    · exact absurd (List.mem_append_right _ hz) hw
  · rcases List.mem_append.mp hz with hz | hz
    · exact List.mem_append_left _ (h.seen z hz)
    · exact List.mem_append_right _ hz
theorem WalkIn.end {n : Int} {ts : List Tie} {p x : Int} {ks ws : List Int} (h : WalkIn n ts p x (nb ts x) ks ws) (hi : TiesIn n ts) : Walk n ts p ks ws :=
  ⟨h.nodup, h.inn, h.conn, h.start, h.sub, fun z hz hw y hy => by
    by_cases e : z = x
    · subst e
      exact h.seen y ((nb_mem hi).mpr hy)
    · exact h.closed z hz hw e y hy⟩
theorem Walk.comp {n : Int} {ts : List Tie} {p : Int} {ks ys : List Int} (h : Walk n ts p ks []) (hp : ys.Perm ks) (hs : ys.Pairwise (· ≤ ·)) : ys = comp n ts p := by
  refine sorted_eq (sorted_of hp hs h.nodup) (comp_lt n ts p) fun x => ?_
  rw [hp.mem_iff, comp_mem]
  constructor
  · exact fun hx => ⟨h.inn x hx, h.conn x hx⟩
  · rintro ⟨hr, c⟩
    clear hr
    induction c with
    | refl => exact h.start
    | tail c a ih => exact h.closed _ ih (fun m => by cases m) _ a
section
variable {K : PySem.W.Frag} {σ : L2.St} {B H : Hp} {S : List Addr} {te ta tb tl : TE} {D : Ends}
/-- dict([(k, ..), ..]): a dict of its own -/
theorem dset_new {ks : List Int} {f : Int → PyData} (h : EvD K ta σ B (.list (ks.map fun k => .tuple [.int k, f k]))) (w : Wd S B H) {Q : VK}
    (q : ∀ o H' more, Ex H H' → H o = none → H' o = some (.dK more) → more.length ≤ ks.length → (∀ k : Int, (valV more (.inl k)).isSome = decide (k ∈ ks)) → Q (.ref o) H') : tCB (rDictP K) (tCons ta tNil) σ H Q :=
  (ea_cons h ea_nil).bind w fun vs B1 H1 e1 eB1 w1 rs => by
    cases rs with
    | cons r1 r2 =>
    cases r2
    cases r1 with
    | @lst a xs _ hs hd =>
    have hl := DqAll.length hd
    obtain ⟨ps, kvs, rfl, hp, hk⟩ := pairs_ints hd
    refine ⟨a, ps, kvs, rfl, ex_l w1.ex hs, paired_mono w1.ex hp, fun p hp => q p _ _ (e1.trans (Ex.new hp)) (fresh_back e1 hp) upd_same ?_ fun k => ?_⟩
    · have h1 := length_mergeK kvs []
      have h2 := congrArg List.length hk
      rw [List.length_map, List.length_map] at h2
      rw [List.length_nil] at h1
      omega
    · unfold mergeK
      rw [merge_some, hk]
      simp [valV_nil]
theorem atI_last {α : Type} (xs : List α) (x : α) : atI (xs ++ [x]) (-1) = some x := by
  have h : ixN (xs ++ [x]).length (-1) = some xs.length := by
    unfold ixN
    rw [if_neg (by decide), if_pos (by rw [List.length_append]; show -((xs.length + 1 : Nat) : Int) ≤ -1; omega), List.length_append]
    show some ((-1 : Int) + ((xs.length + 1 : Nat) : Int)).toNat = _
    congr 1
    omega
  unfold atI
  rw [h]
  simp
theorem rngI_succ (n : Nat) : rngI 0 (n + 1) = rngI 0 n ++ [(n : Int)] := by
  unfold rngI
  rw [List.range_succ, List.map_append]
  simp
theorem mergeK_iff (k : Key) : ∀ (kvs acc : List (Key × V)), (valV (mergeK acc kvs) k).isSome = true ↔ ((valV acc k).isSome = true ∨ k ∈ kvs.map fun p => p.1)
  | [], acc => by
    show (valV acc k).isSome = true ↔ _
    simp
  | p :: r, acc => by
    have ih := mergeK_iff k r (putK acc p.1 p.2)
    show (valV (mergeK (putK acc p.1 p.2) r) k).isSome = true ↔ _
    rw [ih, valV_put, List.map_cons, List.mem_cons]
    by_cases h : k = p.1
    · rw [if_pos h]
      simp [h]
    · rw [if_neg h]
      simp [h]
noncomputable def partsTo (n : Int) (ts : List Tie) (i : Nat) : List (List Int) := ((rngI 0 i).filter (leastB ts)).map (comp n ts)
theorem partsTo_succ (n : Int) (ts : List Tie) (i : Nat) : partsTo n ts (i + 1) = if leastB ts (i : Int) = true then partsTo n ts i ++ [comp n ts (i : Int)] else partsTo n ts i := by
  unfold partsTo
  rw [rngI_succ, List.filter_append, List.map_append]
  by_cases h : leastB ts (i : Int) = true
  · rw [if_pos h, List.filter_cons, if_pos h]
    rfl
  · rw [if_neg h, List.filter_cons, if_neg h]
    simp
theorem partsTo_len (n : Int) (ts : List Tie) (i : Nat) : (partsTo n ts i).length ≤ i := by
  unfold partsTo
  rw [List.length_map]
  exact Nat.le_trans (List.length_filter_le _ _) (by rw [rngI_len]; exact Nat.le_refl _)
/-- a place that none ahead hangs on -/
theorem least_new {n : Int} {ts : List Tie} (h : TiesIn n ts) {i : Int} (h0 : 0 ≤ i) (h1 : i < n) : Least ts i ↔ ¬ ∃ x, (0 ≤ x ∧ x < i) ∧ Conn ts x i := by
  constructor
  · rintro h2 ⟨x, ⟨h3, h4⟩, c⟩
    have := h2 x h3 c.symm
    omega
  · intro h2 y hy c
    by_cases q : i ≤ y
    · exact q
    · exact absurd ⟨y, ⟨hy, by omega⟩, c.symm⟩ h2
end
end Pw

/-! ## PwFirst -/
namespace Pw
open PySem L2 Evl
/-- numbers for the places, each of a place that it hangs on -/
structure Fok (n : Int) (us : List Tie) (fs : List Int) : Prop where
  len : fs.length = n.toNat
  at_ : ∀ (j : Nat) (x : Int), fs[j]? = some x → Conn us (j : Int) x ∧ 0 ≤ x ∧ x ≤ (j : Int)
theorem Fok.init (n : Int) (us : List Tie) : Fok n us (rngI 0 n.toNat) := ⟨rngI_len, fun j x h => by
  have hj : j < n.toNat := by
    have := (List.getElem?_eq_some_iff.mp h).1
    rw [rngI_len] at this
    exact this
  rw [rngI_get hj] at h
  have e : x = (j : Int) := by
    have := Option.some.inj h
    omega
  subst e
  exact ⟨.refl, by omega, by omega⟩⟩
theorem Fok.set {n : Int} {us : List Tie} {fs : List Int} {j : Nat} {x : Int} (h : Fok n us fs) (c : Conn us (j : Int) x) (h0 : 0 ≤ x) (h1 : x ≤ (j : Int)) : Fok n us (fs.set j x) := ⟨by rw [List.length_set]; exact h.len, fun i y hy => by
  rw [List.getElem?_set] at hy
  by_cases e : j = i
  · subst e
    rw [if_pos rfl] at hy
    split at hy
    · cases hy
      exact ⟨c, h0, h1⟩
    · cases hy
  · rw [if_neg e] at hy
    exact h.at_ i y hy⟩
theorem sum_set : ∀ {fs : List Int} {j : Nat} {x y : Int}, fs[j]? = some y → (fs.set j x).sum = fs.sum - y + x
  | [], _, _, _, h => by simp at h
  | z :: r, 0, x, y, h => by
    cases h
    rw [List.set_cons_zero, List.sum_cons, List.sum_cons]
    omega
  | z :: r, j + 1, x, y, h => by
    rw [List.set_cons_succ, List.sum_cons, List.sum_cons, sum_set (fs := r) h]
    omega
theorem sum_pos : ∀ {fs : List Int}, (∀ x ∈ fs, 0 ≤ x) → 0 ≤ fs.sum
  | [], _ => Int.le_refl _
  | z :: r, h => by
    rw [List.sum_cons]
    have := h z List.mem_cons_self
    have := sum_pos fun x hx => h x (List.mem_cons_of_mem z hx)
    omega
theorem Fok.sum {n : Int} {us : List Tie} {fs : List Int} (h : Fok n us fs) : 0 ≤ fs.sum := sum_pos fun x hx => by
  obtain ⟨j, hj⟩ := List.getElem?_of_mem hx
  exact (h.at_ j x hj).2.1
/-- the least place that a place hangs on -/
noncomputable def firstOf (n : Int) (us : List Tie) (x : Int) : Int := (comp n us x).head?.getD 0
noncomputable def firstsL (n : Int) (us : List Tie) : List Int := (rngI 0 n.toNat).map (firstOf n us)
theorem firstOf_eq {n : Int} {us : List Tie} {x z : Int} (h1 : z ∈ comp n us x) (h2 : ∀ y ∈ comp n us x, z ≤ y) : firstOf n us x = z := by
  unfold firstOf
  have h3 := comp_lt n us x
  match hc : comp n us x with
  | [] => rw [hc] at h1; cases h1
  | c :: r =>
    rw [hc] at h1 h2 h3
    rw [List.pairwise_cons] at h3
    show c = z
    rcases List.mem_cons.mp h1 with e | e
    · exact e.symm
    · have := h3.1 z e
      have := h2 c List.mem_cons_self
      omega
theorem firstOf_spec {n : Int} {us : List Tie} (hi : TiesIn n us) {x : Int} (hx : 0 ≤ x ∧ x < n) : firstOf n us x ∈ comp n us x ∧ ∀ y ∈ comp n us x, firstOf n us x ≤ y := by
  unfold firstOf
  have h1 : x ∈ comp n us x := comp_mem.mpr ⟨hx, .refl⟩
  have h3 := comp_lt n us x
  match hc : comp n us x with
  | [] => rw [hc] at h1; cases h1
  | c :: r =>
    rw [hc] at h3
    rw [List.pairwise_cons] at h3
    refine ⟨List.mem_cons_self, fun y hy => ?_⟩
    show c ≤ y
    rcases List.mem_cons.mp hy with e | e
    · rw [e]; exact Int.le_refl _
    · have := h3.1 y e
      omega
def agree (fs : List Int) (t : Tie) : Prop := fs[t.1.toNat]? = fs[t.2.1.toNat]?
theorem Fok.same {n : Int} {us : List Tie} {fs : List Int} (hi : TiesIn n us) (ha : ∀ t ∈ us, agree fs t) {x y : Int} (c : Conn us x y) (hx : 0 ≤ x ∧ x < n) : fs[x.toNat]? = fs[y.toNat]? := by
  induction c with
  | refl => rfl
  | tail _ a ih =>
    obtain ⟨t, ht, e⟩ := a
    have h := ha t ht
    unfold agree at h
    rcases e with ⟨rfl, rfl⟩ | ⟨rfl, rfl⟩
    · rw [ih, h]
    · rw [ih, h]
theorem Fok.done {n : Int} {us : List Tie} {fs : List Int} (h : Fok n us fs) (hi : TiesIn n us) (ha : ∀ t ∈ us, agree fs t) : fs = firstsL n us := by
  refine List.ext_getElem? fun j => ?_
  unfold firstsL
  by_cases hj : j < n.toNat
  · have hjf : fs[j]? = some (fs[j]'(by rw [h.len]; exact hj)) := List.getElem?_eq_getElem _
    rw [List.getElem?_map, rngI_get hj, hjf]
    show some _ = some _
    congr 1
    rw [show (0 : Int) + (j : Int) = (j : Int) by omega]
    obtain ⟨c, h0, h1⟩ := h.at_ j _ hjf
    refine (firstOf_eq (comp_mem.mpr ⟨c.range hi ⟨by omega, by omega⟩, c⟩) fun y hy => ?_).symm
    obtain ⟨hyr, cy⟩ := comp_mem.mp hy
    have e := Fok.same hi ha cy ⟨by omega, by omega⟩
    rw [show ((j : Int)).toNat = j by omega, hjf] at e
    have := (h.at_ y.toNat _ e.symm).2.2
    omega
  · rw [List.getElem?_eq_none (by rw [h.len]; omega), List.getElem?_eq_none (by rw [List.length_map, rngI_len]; omega)]
theorem firstOf_least {n : Int} {us : List Tie} (hi : TiesIn n us) {x : Int} (hx : 0 ≤ x ∧ x < n) : firstOf n us x = x ↔ Least us x := by
  have h := firstOf_spec hi hx
  constructor
  · intro e y hy c
    rw [e] at h
    exact h.2 y (comp_mem.mpr ⟨c.range hi hx, c⟩)
  · intro hl
    exact firstOf_eq (comp_mem.mpr ⟨hx, .refl⟩) fun y hy => hl y (comp_mem.mp hy).1.1 (comp_mem.mp hy).2
theorem firstOf_conn {n : Int} {us : List Tie} (hi : TiesIn n us) {x y : Int} (hx : 0 ≤ x ∧ x < n) (hy : 0 ≤ y ∧ y < n) : firstOf n us x = firstOf n us y ↔ Conn us x y := by
  have h1 := firstOf_spec hi hx
  have h2 := firstOf_spec hi hy
  constructor
  · intro e
    have a := (comp_mem.mp h1.1).2
    have b := (comp_mem.mp h2.1).2
    rw [← e] at b
    exact a.trans b.symm
  · intro c
    exact firstOf_eq (comp_mem.mpr ⟨(comp_mem.mp h2.1).1, c.trans (comp_mem.mp h2.1).2⟩) fun z hz => h2.2 z (comp_mem.mpr ⟨(comp_mem.mp hz).1, c.symm.trans (comp_mem.mp hz).2⟩)
end Pw

/-! ## PwCat -/
namespace Pw
open PySem L2 Evl
/-- a list that the program has made -/
def DL (K : PySem.W.Frag) (ds : List PyData) (v : V) (B : Hp) : Prop := ∃ a xs, v = .ref a ∧ B a = some (.lst xs) ∧ DqAll K B xs ds
theorem stays_DL {K : PySem.W.Frag} {ds : List PyData} : Stays (DL K ds) := fun v B B' e ⟨a, xs, h1, h2, h3⟩ => ⟨a, xs, h1, e _ _ h2, DqAll.mono e h3⟩
theorem DL.dq {K : PySem.W.Frag} {ds : List PyData} {v : V} {B : Hp} (h : DL K ds v B) : Dq K B v (.list ds) := by
  obtain ⟨a, xs, rfl, h2, h3⟩ := h
  exact .lst (sq_of h2) h3
theorem DqAll.app {K : PySem.W.Frag} {B : Hp} : ∀ {vs ws : List V} {ds es : List PyData}, DqAll K B vs ds → DqAll K B ws es → DqAll K B (vs ++ ws) (ds ++ es)
  | _, _, _, _, .nil, h => h
  | _, _, _, _, .cons a t, h => .cons a (DqAll.app t h)
section
variable {K : PySem.W.Frag} {σ : L2.St} {B H H' : Hp} {S : List Addr} {b : Addr} {k m c : Nat} {te ta tb tl : TE} {tt : TT} {tA : TA} {wi : TI} {g : TG} {R R' : V → Hp → Prop} {ds es : List PyData} {tu : TS} {D : Ends}
theorem ev_lstL (h : EvAD K tA σ B ds) (hl : ds.length ≤ 100000) : EvR (tLst tA) σ B (DL K ds) := evR_of (fun S H w Q q => h.bind w fun vs B1 H1 e1 eB1 w1 rs =>
  ⟨sz_of (by rw [DqAll.length rs]; exact hl), fun p hp => q (.ref p) _ _ (e1.trans (Ex.new hp)) (eB1.trans (w1.newE (o := .lst vs) hp)) (w1.new hp) ⟨p, vs, rfl, upd_same, DqAll.mono (w1.newE hp) rs⟩⟩) stays_DL
theorem ev_catL (ha : EvR ta σ B (DL K ds)) (hb : EvR tb σ B (DL K es)) (hl : ds.length + es.length ≤ 100000) : EvR (tOp rCat ta tb) σ B (DL K (ds ++ es)) := evR_of (fun S H w Q q => ha.bind w fun x B1 H1 e1 eB1 w1 ⟨a1, xs, ex, h1, h1d⟩ => (hb.mono eB1).bind w1 fun y B2 H2 e2 eB2 w2 ⟨a2, ys, ey, h2, h2d⟩ => by
  subst ex ey
  exact ⟨a1, a2, xs, ys, rfl, rfl, w2.ex _ _ (eB2 _ _ h1), w2.ex _ _ h2, (sz_of (by rw [DqAll.length h1d, DqAll.length h2d]; exact hl)), fun p hp => q (.ref p) _ _ ((e1.trans e2).trans (Ex.new hp)) ((eB1.trans eB2).trans (w2.newE (o := .lst (xs ++ ys)) hp)) (w2.new hp) ⟨p, xs ++ ys, rfl, upd_same, DqAll.app (DqAll.mono (eB2.trans (w2.newE hp)) h1d) (DqAll.mono (w2.newE hp) h2d)⟩⟩) stays_DL
abbrev DLP (K : PySem.W.Frag) (P : List PyData → Prop) (v : V) (B : Hp) : Prop := ∃ ds, P ds ∧ DL K ds v B
theorem stays_DLP {P : List PyData → Prop} : Stays (DLP K P) := fun v B B' e ⟨ds, h1, h2⟩ => ⟨ds, h1, stays_DL _ _ _ e h2⟩
theorem ex_catL {P1 P2 : List PyData → Prop} (ha : EvX S b k ta σ B (DLP K P1)) (hb : EvX S b m tb σ B (DLP K P2)) (hl : ∀ d1 d2, P1 d1 → P2 d2 → d1.length + d2.length ≤ 100000) : EvX S b (k + m) (tOp rCat ta tb) σ B (DLP K fun ds => ∃ d1 d2, ds = d1 ++ d2 ∧ P1 d1 ∧ P2 d2) :=
  evX_of (fun H c w hbS hB hlid Q q => ha.bind w hbS hB (by omega) fun x B1 H1 x1 eB1 w1 hB1 ⟨d1, p1, a1, xs, ex, h1, h1d⟩ => (hb.mono eB1).bind w1 hbS hB1 (by omega) fun y B2 H2 x2 eB2 w2 hB2 ⟨d2, p2, a2, ys, ey, h2, h2d⟩ => by
    subst ex ey
    exact ⟨a1, a2, xs, ys, rfl, rfl, w2.ex _ _ (eB2 _ _ h1), w2.ex _ _ h2, (sz_of (by rw [DqAll.length h1d, DqAll.length h2d]; exact hl _ _ p1 p2)), fun p hp => q (.ref p) _ _ ((x1.trans x2).trans (Xs.of (Ex.new hp))) ((eB1.trans eB2).trans (w2.newE (o := .lst (xs ++ ys)) hp)) (w2.new hp) ((hB2.ex (Ex.new hp)).mono (by omega)) ⟨d1 ++ d2, ⟨d1, d2, rfl, p1, p2⟩, p, xs ++ ys, rfl, upd_same, DqAll.app (DqAll.mono (eB2.trans (w2.newE hp)) h1d) (DqAll.mono (w2.newE hp) h2d)⟩⟩) stays_DLP
/-- [e for x in l if t], t or e drawing -/
theorem ex_lcL {α β : Type} (l : List α) (enc : α → PyData) (encY : β → PyData) (Pr : Nat → List β → Prop) {vs : List Nat} (hk : WkD K wi σ B (l.map enc)) (hl : l.length ≤ 40000) (h0 : Pr 0 []) (hlen : ∀ i ys, Pr i ys → ys.length ≤ i)
    (turn : ∀ i a ys, l[i]? = some a → Pr i ys → ∀ x S' B' H' c', Ex B B' → Wd S' B' H' → b ∈ S' → BoxAt H' b c' → c' + k ≤ lid → Dq K B' x (enc a) → ∀ (Qy : VK) (Qn : Hp → Prop),
      (∀ y yv B2 H2, Xs [b] H' H2 → BoxAt H2 b (c' + k) → Wd S' B2 H2 → Ex B' B2 → Dq K B2 yv (encY y) → Pr (i + 1) (ys ++ [y]) → Qy yv H2) → (Pr (i + 1) ys → ∀ B2 H2, Xs [b] H' H2 → BoxAt H2 b (c' + k) → Wd S' B2 H2 → Ex B' B2 → Qn H2) →
      g x (wipe σ vs) H' fun σ2 H2 => wipe σ2 vs = wipe σ vs ∧ tt σ2 H2 fun b H3 => if b = true then te σ2 H3 Qy else Qn H3) :
    EvX S b (l.length * k) (tLc wi g tt te vs) σ B (fun v B' => ∃ ys, Pr l.length ys ∧ DL K (ys.map encY) v B') := fun H c w hb hB hlid Q q => by
  refine hk S H w _ fun J B1 H1 e1 eB1 w1 hgo hstop hyld Dl hD => ?_
  rw [List.length_map] at hgo hstop hyld
  have nbD : Dl ≠ b := fun z => by
    obtain ⟨o, ho⟩ := (hB.ex e1).some
    rw [← z, hD] at ho
    cases ho
  refine ⟨fun i m H' => m = l.length - i ∧ i ≤ l.length ∧ Xs [b] H1 H' ∧ BoxAt H' b (c + i * k) ∧ ∃ B' acc ys, Ex B1 B' ∧ Wd (Dl :: S) B' H' ∧ H' Dl = some (.lst acc) ∧ Pr i ys ∧ DqAll K B' acc (ys.map encY),
    ⟨l.length, by omega, Nat.zero_le _, Xs.of (Ex.new hD), ((hB.ex e1).ex (Ex.new hD)).mono (by omega), B1, [], [], Ex.refl _, w1.own hD, upd_same, h0, .nil⟩, ?_⟩
  rintro i m H2 ⟨rfl, hi, xH, hB2, B2, acc, ys, eB2, w2, hA, hP, hd⟩
  by_cases hlt : i < l.length
  · obtain ⟨a, ha⟩ : ∃ a, l[i]? = some a := ⟨l[i], List.getElem?_eq_getElem hlt⟩
    have hmul : (i + 1) * k ≤ l.length * k := Nat.mul_le_mul_right k hlt
    have hsuc : (i + 1) * k = i * k + k := Nat.succ_mul i k
    refine .inr ⟨hgo i H2 (eB2.trans w2.ex) hlt, fun H' => Xs [b] H1 H' ∧ BoxAt H' b (c + (i + 1) * k) ∧ ∃ B' acc ys, Ex B1 B' ∧ Wd (Dl :: S) B' H' ∧ H' Dl = some (.lst acc) ∧ Pr (i + 1) ys ∧ DqAll K B' acc (ys.map encY), fun H' ⟨h1, h2, h3⟩ => ⟨l.length - (i + 1), by omega, rfl, by omega, h1, h2, h3⟩, fun x H3 hy => ?_⟩
    obtain ⟨B3, e3, eB3, w3, d, hd1, hd2⟩ := hyld i (Dl :: S) B2 H2 x H3 eB2 w2 hlt hy
    have ed : enc a = d := by
      rw [List.getElem?_map, ha] at hd1
      exact Option.some.inj hd1
    subst ed
    have hA3 := e3 _ _ hA
    have hlen2 : acc.length ≤ 40000 := by
      have := hlen _ _ hP
      rw [DqAll.length hd, List.length_map]
      omega
    refine turn i a ys ha hP x (Dl :: S) B3 H3 (c + i * k) (eB1.trans (eB2.trans eB3)) w3 (List.mem_cons_of_mem _ hb) (hB2.ex e3) (by omega) hd2 _ _ (fun y yv B4 H4 x4 hB4 w4 eB4 hy4 hP4 => ?_) (fun hP4 B4 H4 x4 hB4 w4 eB4 => ?_)
    · have hA4 := x4 _ _ (fun z => nbD (List.mem_singleton.mp z)) hA3
      refine ⟨acc, hA4, sz_lt (by omega), ?_, (hB4.mono (by omega)).upd nbD.symm, B4, acc ++ [yv], ys ++ [y], eB2.trans (eB3.trans eB4), w4.put List.mem_cons_self, upd_same, hP4, ?_⟩
      · intro p o hp ho
        rw [upd_ne (ne_of_none ho hD)]
        exact x4 p o hp (e3 _ _ (xH p o hp ho))
      · rw [List.map_append]
        exact DqAll.snoc (DqAll.mono (eB3.trans eB4) hd) hy4
    · exact ⟨xH.trans ((Xs.of e3).trans x4), hB4.mono (by omega), B4, acc, ys, eB2.trans (eB3.trans eB4), w4, x4 _ _ (fun z => nbD (List.mem_singleton.mp z)) hA3, hP4, DqAll.mono (eB3.trans eB4) hd⟩
  · have ei : i = l.length := by omega
    subst ei
    refine .inl ⟨hstop _ H2 (eB2.trans w2.ex) rfl, q _ _ ((Xs.of e1).trans xH) hB2 ?_⟩
    have w4 := w2.give hA (w1.nin hD)
    exact ⟨ys, hP, Dl, acc, rfl, (ex_mi w4.ex w4.no) _ _ upd_same, DqAll.mono (w2.giveE.trans (ex_mi w4.ex w4.no)) hd⟩

/-- a loop over a list of places, these being changed -/
theorem st_forRefs {i : Nat} {L : Addr} {ps : List Addr} (hv : σ[i]? = some (some (.ref L))) (hL : H L = some (.lst (ps.map V.ref))) (Iv : Nat → L2.St → Hp → Prop) (h0 : Iv 0 σ H) (hI : ∀ i σ' H', Iv i σ' H' → H' L = some (.lst (ps.map V.ref)))
    (turn : ∀ i p σ' H', ps[i]? = some p → Iv i σ' H' → g (.ref p) σ' H' fun σ2 H2 => tu { D with nx := Iv (i + 1), ct := Iv (i + 1), bk := D.nx } σ2 H2) (done : ∀ σ' H', Iv ps.length σ' H' → D.nx σ' H') : tFor (iList K (tVar i)) g tu D σ H := by
  refine ⟨_, hv, L, rfl, ⟨_, sq_of hL⟩, fun i m σ' H' => m = ps.length - i ∧ i ≤ ps.length ∧ Iv i σ' H', ⟨ps.length, by omega, Nat.zero_le _, h0⟩, ?_⟩
  rintro i m σ2 H2 ⟨rfl, hi, p⟩
  have hL2 := hI i σ2 H2 p
  by_cases hlt : i < ps.length
  · refine .inr ⟨⟨ps.map V.ref, .ref ps[i], sq_of hL2, by rw [List.getElem?_map, List.getElem?_eq_getElem hlt]; rfl⟩, Iv (i + 1), fun σ' H' p' => ⟨ps.length - (i + 1), by omega, rfl, by omega, p'⟩, fun x H3 hy => ?_⟩
    obtain ⟨rfl, f⟩ := hy
    have hx := f _ (sq_of hL2)
    rw [List.getElem?_map, List.getElem?_eq_getElem hlt] at hx
    cases hx
    exact turn i _ σ2 H3 (List.getElem?_eq_getElem hlt) p
  · have ei : i = ps.length := by omega
    subst ei
    exact .inl ⟨⟨_, sq_of hL2, by rw [List.length_map]; exact Nat.le_refl _⟩, done σ2 H2 p⟩
end
theorem okD_parts {cs : List (List Int)} (h : cs.length ≤ 40000) (h2 : ∀ c ∈ cs, c.length ≤ 40000) : okD 4 (.list (cs.map fun c => .list (c.map .int))) = true := by
  show (decide ((cs.map fun c => PyData.list (c.map .int)).length ≤ 40000) && (cs.map fun c => PyData.list (c.map .int)).all (okD 3)) = true
  rw [List.length_map, decide_eq_true h, Bool.true_and, List.all_map, List.all_eq_true]
  intro c hc
  show (decide ((c.map PyData.int).length ≤ 40000) && (c.map PyData.int).all (okD 2)) = true
  rw [List.length_map, decide_eq_true (h2 c hc), Bool.true_and, List.all_map, List.all_eq_true]
  intro i _
  rfl
theorem parts_len {n : Int} {ts : List Tie} : (parts n ts).length ≤ n.toNat := partsTo_len n ts n.toNat
theorem parts_each {n : Int} {ts : List Tie} {c : List Int} (h : c ∈ parts n ts) : c.length ≤ n.toNat := by
  obtain ⟨p, _, rfl⟩ := List.mem_map.mp h
  exact comp_len n ts p
end Pw

/-! ## PwPop -/
namespace Pw
open PySem L2 Evl
theorem erase_mapA {α β : Type} (f : α → β) : ∀ (l : List α) (i : Nat), (l.map f).eraseIdx i = (l.eraseIdx i).map f
  | [], _ => rfl
  | _ :: _, 0 => rfl
  | a :: r, i + 1 => by
    rw [List.map_cons, List.eraseIdx_cons_succ, List.eraseIdx_cons_succ, List.map_cons, erase_mapA f r i]
theorem DqAll.erase {K : PySem.W.Frag} {B : Hp} : ∀ {vs : List V} {ds : List PyData} (i : Nat), DqAll K B vs ds → DqAll K B (vs.eraseIdx i) (ds.eraseIdx i)
  | _, _, _, .nil => .nil
  | _, _, 0, .cons _ t => t
  | _, _, i + 1, .cons h t => .cons h (DqAll.erase i t)
theorem cons_erase_perm {α : Type} : ∀ (l : List α) (i : Nat) (h : i < l.length), (l[i] :: l.eraseIdx i).Perm l
  | a :: r, 0, _ => List.Perm.refl _
  | a :: r, i + 1, h => by
    have h' : i < r.length := by simpa using h
    have p := cons_erase_perm r i h'
    rw [List.eraseIdx_cons_succ]
    show (r[i] :: a :: r.eraseIdx i).Perm (a :: r)
    exact (List.Perm.swap a r[i] _).trans (p.cons a)
theorem perm_take {α : Type} {ys rest zs : List α} {i : Nat} {z : α} (h : (ys ++ rest).Perm zs) (hz : rest[i]? = some z) : ((ys ++ [z]) ++ rest.eraseIdx i).Perm zs := by
  obtain ⟨hi, e⟩ := List.getElem?_eq_some_iff.mp hz
  have p : (z :: rest.eraseIdx i).Perm rest := by
    rw [← e]
    exact cons_erase_perm rest i hi
  rw [List.append_assoc]
  exact (p.append_left ys).trans h
theorem atI2 {P : PyData → Prop} {x y : PyData} {i : Int} (hi : 0 ≤ i ∧ i < 2) (hx : P x) (hy : P y) : ∃ d, atI [x, y] i = some d ∧ P d := by
  obtain rfl | rfl : i = 0 ∨ i = 1 := by omega
  · exact ⟨x, rfl, hx⟩
  · exact ⟨y, rfl, hy⟩
theorem Xs.sub1 {b : Addr} {H H1 H2 : Hp} (x : Xs [b] H H1) (e : Ex H1 H2) : Xs [b] H H2 := x.trans (Xs.of e)
/-- a method within a comprehension -/
theorem pe_bmK {X : Cx} {o e : Expr} {es : List Expr} {to : TE} {t : TA} {name : Str} {apos cpos : Pos} {T id : String} {r : V → List V → Hp → VK → Prop} (K : PySem.W.Frag) (hK : X.K = K) (pa : PlainAttrs T) (slot : Slot T name id)
    (hty : typeOf (.builtin id) = pure (.type "method_descriptor")) (hm : MtR X id r) (ho : PE X o to) (ha : PA X (e :: es) t) (h1 : attributeBase o name X.env (eval o X.env) = eval o X.env := by rfl)
    (h2 : ((backTo cpos (starEach (e :: es) X.env)).all (fun x => !x.1) && (backToKw cpos (keywordEach [] X.env)).all (fun x => x.1.isSome) && decide ((e :: es).length + ([] : List Keyword).length + (if ([] : List Keyword).isEmpty then 0 else 1) < 30)) = true := by rfl)
    (h3 : (apos.endLine == cpos.line) = true := by rfl) (h4 : starEach (e :: es) X.env = (false, eval e X.env) :: starEach es X.env := by rfl) (h5 : (backTo cpos (starEach es X.env)).any (·.1) = false := by rfl) :
    PE X (.Call (.Attribute o name apos) (e :: es) [] cpos) (tBM K T r to t) := hK ▸ pe_bm pa slot hty hm ho ha h1 h2 h3 h4 h5
section
variable {K : PySem.W.Frag} {σ : L2.St} {B H : Hp} {S : List Addr} {b A : Addr} {c : Nat} {te : TE} {wi : TI} {g : TG} {E : XK}
/-- some.pop(take(box, len(some))) -/
theorem pop_at {ia ib : Nat} {xs : List V} {Q : VK} (ha : σ[ia]? = some (some (.ref A))) (hb : σ[ib]? = some (some (.ref b))) (hA : H A = some (.lst xs)) (nAb : A ≠ b) (hB : BoxAt H b c) (hl : c + 1 ≤ lid) (h0 : 0 < xs.length) (h1 : xs.length ≤ 40000)
    (q : ∀ i v H2, xs[i]? = some v → Xs [b] H H2 → BoxAt H2 b (c + 1) → Q v (upd H2 A (.lst (xs.eraseIdx i)))) :
    tBM K "list" rPopAt (tVar ia) (tCons (tCall spTake [] E (tCons (tVar ib) (tCons (tCB (rLenS K) (tCons (tVar ia) tNil)) tNil))) tNil) σ H Q := by
  refine ⟨_, ha, .inl ⟨rfl, _, sq_of hA⟩, _, hb, _, ha, A, _, rfl, .inl (sq_of hA), b, _, c, rfl, hB, by unfold lid at hl; omega, by omega, by omega, fun i H2 g1 g2 hx => ?_⟩
  have hi : i.toNat < xs.length := by omega
  refine ⟨A, xs, i, i.toNat, xs[i.toNat], rfl, rfl, hx.at nAb hA, by omega, by omega, (ixN_seq ?_).1, List.getElem?_eq_getElem hi, q _ _ _ (List.getElem?_eq_getElem hi) hx.x hx.at_⟩
  unfold ixN
  rw [if_pos g1, if_pos g2]
/-- [e for x in l], nothing drawn: a list that was made -/
theorem ev_lcL {α : Type} (l : List α) (enc : α → PyData) (e : α → PyData) {vs : List Nat} (w : Wd S B H) (hb : b ∈ S) (hB : BoxAt H b c) (hc : c ≤ lid) (hk : WkD K wi σ B (l.map enc)) (hl : l.length ≤ 40000)
    (turn : ∀ a ∈ l, TurnLc K g tYes te σ vs B (enc a) true (e a)) {Q : VK} (q : ∀ v B' H', Ex B B' → Wd S B' H' → Xs [b] H H' → BoxAt H' b c → DL K (l.map e) v B' → Q v H') : tLc wi g tYes te vs σ H Q := by
  refine (ex_lcL (K := K) (b := b) (k := 0) l enc e (fun i ys => ys = l.take i) hk hl rfl (fun i ys h => ?_) fun i a ys hi hP x S' B' H' c' eB' w' hb' hB' hl' hx Qy Qn hy hn => ?_).bind w hb hB (by omega) fun v B1 H1 x1 eB1 w1 hB1 ⟨ys, hys, hd⟩ => ?_
  · rw [h, List.length_take]
    exact Nat.min_le_left _ _
  · refine turn a (List.mem_of_getElem? hi) x S' B' H' eB' w' hx Qy Qn (fun _ y B2 H2 e2 eB2 w2 h2 => hy a y B2 H2 (Xs.of e2) (hB'.ex e2) w2 eB2 h2 ?_) (fun z => by cases z)
    rw [hP, List.take_add_one, hi]
    rfl
  · rw [hys, List.take_length] at hd
    exact q v B1 H1 eB1 w1 x1 (hB1.mono (by omega)) hd
/-- [some.pop(..) for x in l], some one's own list at A, the place drawn from b -/
theorem lc_pop {α β : Type} (l : List β) (encB : β → PyData) (enc : α → PyData) (zs : List α) {vs : List Nat} {xs : List V} (w : Wd S B H) (hb : b ∈ S) (hAS : A ∈ S) (nAb : A ≠ b) (hB : BoxAt H b c) (hlid : c + l.length ≤ lid) (hA : H A = some (.lst xs))
    (hx : DqAll K B xs (zs.map enc)) (hk : WkD K wi σ B (l.map encB)) (hl : l.length ≤ zs.length) (hz : zs.length ≤ 40000)
    (turn : ∀ x H' xs' c' (Qy : VK) (Qn : Hp → Prop), H' A = some (.lst xs') → 0 < xs'.length → xs'.length ≤ 40000 → BoxAt H' b c' → c' + 1 ≤ lid →
      (∀ i v H2, xs'[i]? = some v → Xs [b] H' H2 → BoxAt H2 b (c' + 1) → Qy v (upd H2 A (.lst (xs'.eraseIdx i)))) → g x (wipe σ vs) H' fun σ2 H2 => wipe σ2 vs = wipe σ vs ∧ tYes σ2 H2 fun b H3 => if b = true then te σ2 H3 Qy else Qn H3)
    {Q : VK} (q : ∀ v B' H' (ys rest : List α), (ys ++ rest).Perm zs → ys.length = l.length → Xs [b, A] H H' → Ex B B' → Wd S B' H' → BoxAt H' b (c + l.length) → (∃ xs', H' A = some (.lst xs') ∧ DqAll K B' xs' (rest.map enc)) → DL K (ys.map enc) v B' → Q v H') :
    tLc wi g tYes te vs σ H Q := by
  refine hk S H w _ fun J B1 H1 e1 eB1 w1 hgo hstop hyld Dl hD => ?_
  rw [List.length_map] at hgo hstop hyld
  have nbD : Dl ≠ b := fun z => by
    obtain ⟨o, ho⟩ := (hB.ex e1).some
    rw [← z, hD] at ho
    cases ho
  have nAD : A ≠ Dl := ne_of_none (e1 _ _ hA) hD
  refine ⟨fun i m H' => m = l.length - i ∧ i ≤ l.length ∧ Xs [b, A] H1 H' ∧ BoxAt H' b (c + i) ∧ ∃ B' acc ys rest xs', Ex B1 B' ∧ Wd (Dl :: S) B' H' ∧ H' Dl = some (.lst acc) ∧ H' A = some (.lst xs') ∧ DqAll K B' xs' (List.map enc rest) ∧ DqAll K B' acc (List.map enc ys) ∧ (ys ++ rest).Perm zs ∧ ys.length = i,
    ⟨l.length, by omega, Nat.zero_le _, Xs.of (Ex.new hD), (hB.ex e1).ex (Ex.new hD), B1, [], [], zs, xs, Ex.refl _, w1.own hD, upd_same, by rw [upd_ne nAD]; exact e1 _ _ hA, DqAll.mono eB1 hx, .nil, List.Perm.refl _, rfl⟩, ?_⟩
  rintro i m H2 ⟨rfl, hi, xH, hB2, B2, acc, ys, rest, xs', eB2, w2, hD2, hA2, hr2, hy2, hp, hyl⟩
  by_cases hlt : i < l.length
  · obtain ⟨a, ha⟩ : ∃ a, l[i]? = some a := ⟨l[i], List.getElem?_eq_getElem hlt⟩
    have hrl : xs'.length = rest.length := by rw [DqAll.length hr2, List.length_map]
    have hsum : ys.length + rest.length = zs.length := by rw [← List.length_append]; exact hp.length_eq
    refine .inr ⟨hgo i H2 (eB2.trans w2.ex) hlt, fun H' => Xs [b, A] H1 H' ∧ BoxAt H' b (c + (i + 1)) ∧ ∃ B' acc ys rest xs', Ex B1 B' ∧ Wd (Dl :: S) B' H' ∧ H' Dl = some (.lst acc) ∧ H' A = some (.lst xs') ∧ DqAll K B' xs' (List.map enc rest) ∧ DqAll K B' acc (List.map enc ys) ∧ (ys ++ rest).Perm zs ∧ ys.length = i + 1,
      fun H' ⟨h1, h2, h3⟩ => ⟨l.length - (i + 1), by omega, rfl, by omega, h1, h2, h3⟩, fun x H3 hy => ?_⟩
    obtain ⟨B3, e3, eB3, w3, d, hd1, hd2⟩ := hyld i (Dl :: S) B2 H2 x H3 eB2 w2 hlt hy
    refine turn x H3 xs' (c + i) _ _ (e3 _ _ hA2) (by omega) (by omega) (hB2.ex e3) (by omega) fun j v H4 hj x4 hB4 => ?_
    have hbS' : b ∈ Dl :: S := List.mem_cons_of_mem _ hb
    have w4 := (w3.xs hbS' (hB2.ex e3) x4 hB4).put (o := .lst (xs'.eraseIdx j)) (List.mem_cons_of_mem Dl hAS)
    have eB4 := w3.xsE hbS' x4
    obtain ⟨d2, hz1, hz2⟩ := DqAll.get hr2 hj
    rw [List.getElem?_map] at hz1
    obtain ⟨z, hz3, rfl⟩ := Option.map_eq_some_iff.mp hz1
    have hD4 : upd H4 A (.lst (xs'.eraseIdx j)) Dl = some (.lst acc) := by
      rw [upd_ne nAD.symm]
      exact x4 _ _ (fun z => nbD (List.mem_singleton.mp z)) (e3 _ _ hD2)
    have hacc : acc.length ≤ 40000 := by
      have := DqAll.length hy2
      rw [List.length_map] at this
      omega
    refine ⟨acc, hD4, sz_lt (by omega), ?_, ?_, mi H4 (Dl :: S), acc ++ [v], ys ++ [z], rest.eraseIdx j, xs'.eraseIdx j, eB2.trans (eB3.trans eB4), w4.put List.mem_cons_self, upd_same, by rw [upd_ne nAD, upd_same], ?_, ?_, perm_take hp hz3, by rw [List.length_append, hyl]; rfl⟩
    · intro p o hp' ho
      have hpb : p ≠ b := fun z => hp' (by rw [z]; exact List.mem_cons_self)
      have hpA : p ≠ A := fun z => hp' (by rw [z]; exact List.mem_cons_of_mem _ List.mem_cons_self)
      rw [upd_ne (ne_of_none ho hD), upd_ne hpA]
      exact x4 p o (fun z => hpb (List.mem_singleton.mp z)) (e3 _ _ (xH p o hp' ho))
    · exact ((hB4.upd (o := .lst (xs'.eraseIdx j)) nAb.symm).upd (o := .lst (acc ++ [v])) nbD.symm).mono (by omega)
    · rw [← erase_mapA]
      exact DqAll.erase j (DqAll.mono (eB3.trans eB4) hr2)
    · rw [List.map_append]
      exact DqAll.snoc (DqAll.mono (eB3.trans eB4) hy2) (Dq.mono (eB3.trans eB4) hz2)
  · have ei : i = l.length := by omega
    subst ei
    have w4 := w2.give hD2 (w1.nin hD)
    exact .inl ⟨hstop _ H2 (eB2.trans w2.ex) rfl, q _ _ _ ys rest hp hyl ((Xs.of e1).trans xH) (eB1.trans (eB2.trans w2.giveE)) w4 hB2 ⟨xs', hA2, DqAll.mono w2.giveE hr2⟩ ⟨Dl, acc, rfl, upd_same, DqAll.mono w2.giveE hy2⟩⟩
end
end Pw

/-! ## PwTree -/
namespace Pw
open PySem L2 Evl

/-! ### sorted(..) of a list of tuples of ints -/
def tupI (k : List Int) : PyData := .tuple (k.map .int)
theorem dqs_ti {K : PySem.W.Frag} {B : Hp} : ∀ {ks : List (List Int)} {vs : List V}, DqAll K B vs (ks.map tupI) → ∃ bs : List (Addr × List Int), vs = bs.map (fun b => V.ref b.1) ∧ bs.map (·.2) = ks ∧ ∀ b ∈ bs, B b.1 = some (.tup (b.2.map V.int))
  | [], _, h => by cases h; exact ⟨[], rfl, rfl, fun b h => by cases h⟩
  | k :: ks, _, h => by
    cases h with
    | cons h1 t =>
      obtain ⟨bs, rfl, e2, h3⟩ := dqs_ti t
      cases h1 with
      | @tup a xs _ hs hd =>
        refine ⟨(a, k) :: bs, rfl, by rw [List.map_cons, e2], fun b hb => ?_⟩
        rcases List.mem_cons.mp hb with rfl | hb
        · rw [hs, DqAll.ints_eq hd]
        · exact h3 b hb
theorem dqs_of_ti {K : PySem.W.Frag} {B : Hp} : ∀ {bs : List (Addr × List Int)}, (∀ b ∈ bs, B b.1 = some (.tup (b.2.map V.int))) → DqAll K B (bs.map fun b => V.ref b.1) ((bs.map (·.2)).map tupI)
  | [], _ => .nil
  | b :: bs, h => .cons (.tup (h b List.mem_cons_self) DqAll.ints) (dqs_of_ti fun c hc => h c (List.mem_cons_of_mem _ hc))
def rSortTI (K : PySem.W.Frag) : List V → Hp → VK → Prop := fun vs H Q => ∃ (a : Addr) (bs : List (Addr × List Int)), vs = [V.ref a] ∧ SqL K H a (bs.map fun b => V.ref b.1) ∧ (∀ b ∈ bs, b.2 ≠ [] ∧ SqT K H b.1 (b.2.map V.int)) ∧
    ∀ p, H p = none → Q (.ref p) (upd H p (.lst ((bs.mergeSort leTI).map fun b => V.ref b.1)))
/-- the same, put in order -/
def SortsTo (ks ls : List (List Int)) : Prop := ls.Perm ks ∧ ls.Pairwise (· ≤ ·)
section
variable {K : PySem.W.Frag} {σ : L2.St} {B H : Hp} {S : List Addr} {te : TE}
theorem ev_sortTI {ks : List (List Int)} (h : EvD K te σ B (.list (ks.map tupI))) (hne : ∀ k ∈ ks, k ≠ []) : EvR (tCB (rSortTI K) (tCons te tNil)) σ B (fun v B' => ∃ ls, SortsTo ks ls ∧ DL K (ls.map tupI) v B') :=
  evR_of (fun S H w Q q => h.bind w fun x B1 H1 e1 eB1 w1 rx => by
    cases rx with
    | @lst a xs _ hs hd =>
      obtain ⟨bs, rfl, e2, h3⟩ := dqs_ti hd
      refine ⟨a, bs, rfl, ex_l w1.ex hs, fun b hb => ⟨hne _ (by rw [← e2]; exact List.mem_map.mpr ⟨b, hb, rfl⟩), st_of (w1.ex _ _ (h3 b hb))⟩, fun p hp => ?_⟩
      refine q (.ref p) _ _ (e1.trans (Ex.new hp)) (eB1.trans (w1.newE (o := .lst ((bs.mergeSort leTI).map fun b => V.ref b.1)) hp)) (w1.new hp) ⟨(bs.mergeSort leTI).map (·.2), ⟨?_, ?_⟩, p, _, rfl, upd_same, ?_⟩
      · rw [← e2]
        exact (sortTI_perm bs).map _
      · exact List.pairwise_map.mpr (sortTI_le bs)
      · exact DqAll.mono (w1.newE hp) (dqs_of_ti fun b hb => h3 b ((sortTI_perm bs).mem_iff.mp hb))) fun v B B' e ⟨ls, h1, h2⟩ => ⟨ls, h1, stays_DL _ _ _ e h2⟩
end
theorem sorts_eq {ks ls ms : List (List Int)} (h : SortsTo ks ls) (g : SortsTo ks ms) : ls = ms :=
  List.Perm.eq_of_pairwise (fun a b _ _ h1 h2 => List.le_antisymm h1 h2) h.2 g.2 (h.1.trans g.1.symm)
theorem sorts_ex (ks : List (List Int)) : ∃ ls, SortsTo ks ls := by
  refine ⟨ks.mergeSort fun a b => decide (a ≤ b), List.mergeSort_perm _ _, ?_⟩
  refine (List.pairwise_mergeSort (le := fun (a b : List Int) => decide (a ≤ b)) (fun a b c h1 h2 => ?_) (fun a b => ?_) ks).imp fun {a b} h => of_decide_eq_true h
  · exact decide_eq_true (List.le_trans (of_decide_eq_true h1) (of_decide_eq_true h2))
  · rw [Bool.or_eq_true]
    exact (List.le_total a b).imp decide_eq_true decide_eq_true
theorem ev_sortsTI {K : PySem.W.Frag} {σ : L2.St} {B : Hp} {te : TE} {ks ls : List (List Int)} (h : EvD K te σ B (.list (ks.map tupI))) (hne : ∀ k ∈ ks, k ≠ []) (hs : SortsTo ks ls) : EvR (tCB (rSortTI K) (tCons te tNil)) σ B (DL K (ls.map tupI)) :=
  (ev_sortTI h hne).imp fun v B' ⟨ms, h1, h2⟩ => by rw [sorts_eq hs h1]; exact h2
def tieL (t : Tie) : List Int := [t.1, t.2.1, t.2.2]
theorem tieL_inj {s t : Tie} (h : tieL s = tieL t) : s = t := by
  obtain ⟨a, b, c⟩ := s
  obtain ⟨a', b', c'⟩ := t
  simp only [tieL, List.cons.injEq, and_true] at h
  obtain ⟨rfl, rfl, rfl⟩ := h
  rfl
theorem tie_le {s t : Tie} (h : tieL s ≤ tieL t) : s.1 < t.1 ∨ s.1 = t.1 ∧ s.2.1 ≤ t.2.1 := by
  have h2 : ¬ tieL t < tieL s := List.not_lt.mpr h
  unfold tieL at h2
  rw [List.cons_lt_cons_iff, List.cons_lt_cons_iff] at h2
  omega
/-- sorted ties -/
theorem sorts_ties : ∀ {us : List Tie} {ls : List (List Int)}, ls.Perm (us.map tieL) → ∃ ts : List Tie, ts.Perm us ∧ ls = ts.map tieL := by
  intro us ls h
  have hm : ∀ l ∈ ls, ∃ t ∈ us, tieL t = l := fun l hl => List.mem_map.mp (h.mem_iff.mp hl)
  let g : List Int → Tie := fun l => (l.getD 0 0, l.getD 1 0, l.getD 2 0)
  have hg : ∀ t, g (tieL t) = t := fun t => rfl
  refine ⟨ls.map g, ?_, ?_⟩
  · have p := h.map g
    rw [List.map_map, show (g ∘ tieL) = id from funext hg, List.map_id] at p
    exact p
  · rw [List.map_map, eq_comm]
    refine (List.map_congr_left fun l hl => ?_).trans (List.map_id ls)
    obtain ⟨t, _, rfl⟩ := hm l hl
    show tieL (g (tieL t)) = tieL t
    rw [hg]

/-! ### trees as they are drawn: each place, in the order of names, is tied to an earlier one -/
def mm (a b w : Int) : Tie := (if b < a then b else a, if b > a then b else a, w)
structure Grown (names : List Int) (us : List Tie) : Prop where
  tie : ∀ i t, us[i]? = some t → ∃ p a b w, p ≤ i ∧ names[p]? = some a ∧ names[i + 1]? = some b ∧ 1 ≤ w ∧ w ≤ 1000000000 ∧ t = mm a b w
theorem Grown.nil (names : List Int) : Grown names [] := ⟨fun i t h => by simp at h⟩
theorem Grown.snoc {names : List Int} {us : List Tie} (g : Grown names us) {p : Nat} {a b w : Int} (hp : p ≤ us.length) (ha : names[p]? = some a) (hb : names[us.length + 1]? = some b) (h1 : 1 ≤ w) (h2 : w ≤ 1000000000) : Grown names (us ++ [mm a b w]) :=
  ⟨fun i t h => by
    by_cases c : i < us.length
    · rw [List.getElem?_append_left c] at h
      exact g.tie i t h
    · have hi := (List.getElem?_eq_some_iff.mp h).1
      rw [List.length_append] at hi
      have e : i = us.length := by
        have : i < us.length + 1 := hi
        omega
      subst e
      rw [List.getElem?_append_right (Nat.le_refl _), Nat.sub_self] at h
      cases h
      exact ⟨p, a, b, w, hp, ha, hb, h1, h2, rfl⟩⟩
theorem nd_at {names : List Int} (hn : names.Nodup) {i j : Nat} {a : Int} (hi : names[i]? = some a) (hj : names[j]? = some a) : i = j := by
  obtain ⟨h1, e1⟩ := List.getElem?_eq_some_iff.mp hi
  obtain ⟨h2, e2⟩ := List.getElem?_eq_some_iff.mp hj
  exact (List.getElem_inj hn).mp (e1.trans e2.symm)
theorem mm_ends {a b w : Int} (h : a ≠ b) : (mm a b w).1 < (mm a b w).2.1 ∧ ((mm a b w).1 = a ∧ (mm a b w).2.1 = b ∨ (mm a b w).1 = b ∧ (mm a b w).2.1 = a) := by
  show (if b < a then b else a) < (if b > a then b else a) ∧ ((if b < a then b else a) = a ∧ (if b > a then b else a) = b ∨ (if b < a then b else a) = b ∧ (if b > a then b else a) = a)
  split <;> split <;> omega
theorem Grown.at {names : List Int} {us : List Tie} (g : Grown names us) (hn : names.Nodup) {i : Nat} {t : Tie} (h : us[i]? = some t) :
    ∃ p a b, p ≤ i ∧ names[p]? = some a ∧ names[i + 1]? = some b ∧ (1 ≤ t.2.2 ∧ t.2.2 ≤ 1000000000) ∧ t.1 < t.2.1 ∧ (t.1 = a ∧ t.2.1 = b ∨ t.1 = b ∧ t.2.1 = a) := by
  obtain ⟨p, a, b, w, hp, ha, hb, h1, h2, rfl⟩ := g.tie i t h
  have hne : a ≠ b := fun z => by
    rw [z] at ha
    have := nd_at hn ha hb
    omega
  obtain ⟨m1, m2⟩ := mm_ends (w := w) hne
  exact ⟨p, a, b, hp, ha, hb, ⟨h1, h2⟩, m1, m2⟩
theorem Grown.apart {names : List Int} {us : List Tie} (g : Grown names us) (hn : names.Nodup) {i j : Nat} {s t : Tie} (hij : i < j) (hs : us[i]? = some s) (ht : us[j]? = some t) : ¬ (s.1 = t.1 ∧ s.2.1 = t.2.1) := by
  obtain ⟨p, a, b, hp, ha, hb, _, _, e⟩ := g.at hn hs
  obtain ⟨p', a', b', hp', ha', hb', _, _, e'⟩ := g.at hn ht
  intro ⟨z1, z2⟩
  have hbb : b' = a ∨ b' = b := by omega
  rcases hbb with z | z
  · rw [z] at hb'
    have := nd_at hn hb' ha
    omega
  · rw [z] at hb'
    have := nd_at hn hb' hb
    omega
/-- a tree's web -/
structure TreeOf (n : Int) (names : List Int) (us ts : List Tie) : Prop where
  pos : 1 ≤ n
  top : n ≤ 60
  perm : names.Perm (rngI 0 n.toNat)
  len : us.length + 1 = n.toNat
  grown : Grown names us
  same : ts.Perm us
  ord : (ts.map tieL).Pairwise (· ≤ ·)
theorem rngI_nd (lo : Int) (n : Nat) : (rngI lo n).Nodup := (rngI_lt lo n).imp fun h => by omega
theorem TreeOf.nd {n : Int} {names : List Int} {us ts : List Tie} (T : TreeOf n names us ts) : names.Nodup := T.perm.nodup_iff.mpr (rngI_nd _ _)
theorem TreeOf.tie {n : Int} {names : List Int} {us ts : List Tie} (T : TreeOf n names us ts) {t : Tie} (h : t ∈ ts) : 0 ≤ t.1 ∧ t.1 < t.2.1 ∧ t.2.1 < n ∧ 1 ≤ t.2.2 ∧ t.2.2 ≤ 1000000000 := by
  obtain ⟨i, hi⟩ := List.getElem?_of_mem (T.same.mem_iff.mp h)
  obtain ⟨p, a, b, hp, ha, hb, hw, hlt, e⟩ := T.grown.at T.nd hi
  have ra := rngI_mem.mp (T.perm.mem_iff.mp (List.mem_of_getElem? ha))
  have rb := rngI_mem.mp (T.perm.mem_iff.mp (List.mem_of_getElem? hb))
  omega
theorem TreeOf.web {n : Int} {names : List Int} {us ts : List Tie} (T : TreeOf n names us ts) : WebOk n ts := by
  refine ⟨T.pos, fun t ht => ?_, ?_, ?_⟩
  · have := T.tie ht
    omega
  · have p1 : us.Pairwise (fun s t => ¬ (s.1 = t.1 ∧ s.2.1 = t.2.1)) := List.pairwise_iff_getElem.mpr fun i j hi hj hij => T.grown.apart T.nd hij (List.getElem?_eq_getElem hi) (List.getElem?_eq_getElem hj)
    have p2 : ts.Pairwise (fun s t => ¬ (s.1 = t.1 ∧ s.2.1 = t.2.1)) := T.same.symm.pairwise p1 fun {x y} h z => h ⟨z.1.symm, z.2.symm⟩
    refine ((List.pairwise_map.mp T.ord).and p2).imp fun {s t} ⟨h1, h2⟩ => ?_
    have := tie_le h1
    unfold pairLt
    omega
  · have := T.same.length_eq
    have := T.len
    have := T.top
    omega
theorem TreeOf.count {n : Int} {names : List Int} {us ts : List Tie} (T : TreeOf n names us ts) : (ts.length : Int) = n - 1 := by
  have := T.same.length_eq
  have := T.len
  have := T.pos
  omega
theorem rngI_succ' (k : Nat) : rngI 0 (k + 1) = rngI 0 k ++ [(k : Int)] := by
  unfold rngI
  rw [List.range_succ, List.map_append]
  simp
/-- one more put in between -/
theorem insert_perm {names : List Int} {j k : Nat} (h : names.Perm (rngI 0 k)) : (names.take j ++ [(k : Int)] ++ names.drop j).Perm (rngI 0 (k + 1)) := by
  rw [rngI_succ']
  refine List.Perm.trans ?_ (h.append_right [(k : Int)])
  have p : (names.take j ++ [(k : Int)] ++ names.drop j).Perm (names.take j ++ names.drop j ++ [(k : Int)]) := by
    rw [List.append_assoc, List.append_assoc]
    exact List.perm_append_comm.append_left _
  rw [List.take_append_drop] at p
  exact p
end Pw

/-! ## PwUpd -/
namespace Pw
open PySem L2 Evl
/-! ### hashes of pairs of small numbers are apart -/
def hp (a b : Int) : Int := reduceHash (Builtin.Tuple.tupleHashOf [hashInt a, hashInt b])
theorem hp_eq {P : Program} {w : World} (a b : Int) : tupleKeyHash (mixKind P w) (kPair a b) = hp a b := rfl
def dom30 : List (Int × Int) := (List.range 30).flatMap fun (b : Nat) => (List.range b).map fun (a : Nat) => (Int.ofNat a, Int.ofNat b)
theorem hp_nodup : (dom30.map fun p => hp p.1 p.2).Nodup := by decide +kernel
theorem dom30_mem {a b : Int} (h0 : 0 ≤ a) (h1 : a < b) (h2 : b < 30) : (a, b) ∈ dom30 := by
  unfold dom30
  rw [List.mem_flatMap]
  refine ⟨b.toNat, List.mem_range.mpr (by omega), List.mem_map.mpr ⟨a.toNat, List.mem_range.mpr (by omega), ?_⟩⟩
  show (((a.toNat : Nat) : Int), ((b.toNat : Nat) : Int)) = (a, b)
  rw [show ((a.toNat : Nat) : Int) = a by omega, show ((b.toNat : Nat) : Int) = b by omega]
theorem inj_of_nodup {α β : Type} {f : α → β} : ∀ {l : List α}, (l.map f).Nodup → ∀ {x y : α}, x ∈ l → y ∈ l → f x = f y → x = y
  | [], _, _, _, hx, _, _ => by cases hx
  | a :: r, h, x, y, hx, hy, e => by
    rw [List.map_cons, List.nodup_cons] at h
    rcases List.mem_cons.mp hx with ex | hx'
    · rcases List.mem_cons.mp hy with ey | hy'
      · rw [ex, ey]
      · exact absurd (List.mem_map.mpr ⟨y, hy', by rw [← e, ex]⟩) h.1
    · rcases List.mem_cons.mp hy with ey | hy'
      · exact absurd (List.mem_map.mpr ⟨x, hx', by rw [e, ey]⟩) h.1
      · exact inj_of_nodup h.2 hx' hy' e
theorem nodup_inj {α β : Type} {f : α → β} : ∀ {l : List α}, l.Nodup → (∀ x ∈ l, ∀ y ∈ l, f x = f y → x = y) → (l.map f).Nodup
  | [], _, _ => List.nodup_nil
  | a :: r, h, i => by
    rw [List.nodup_cons] at h
    rw [List.map_cons, List.nodup_cons]
    refine ⟨fun m => ?_, nodup_inj h.2 fun x hx y hy => i x (List.mem_cons_of_mem _ hx) y (List.mem_cons_of_mem _ hy)⟩
    obtain ⟨x, hx, e⟩ := List.mem_map.mp m
    exact h.1 (i x (List.mem_cons_of_mem _ hx) a List.mem_cons_self e ▸ hx)
/-- dicts whose keys are pairs of small numbers, the lesser one first -/
structure Small (kvs : List (List Key × V)) : Prop where
  key : ∀ p ∈ kvs, ∃ a b : Int, p.1 = kPair a b ∧ 0 ≤ a ∧ a < b ∧ b < 30
  nodup : (kvs.map (·.1)).Nodup
theorem Small.nil : Small [] := ⟨(fun p h => by cases h), List.nodup_nil⟩
theorem Small.put {kvs : List (List Key × V)} (h : Small kvs) {a b : Int} {v : V} (h0 : 0 ≤ a) (h1 : a < b) (h2 : b < 30) : Small (putK kvs (kPair a b) v) :=
  ⟨fun p hp => (putK_mem hp).elim (h.key p) fun e => ⟨a, b, by rw [e], h0, h1, h2⟩, putK_keys h.nodup⟩
theorem Small.merge : ∀ {more kvs : List (List Key × V)}, Small kvs → (∀ p ∈ more, ∃ a b : Int, p.1 = kPair a b ∧ 0 ≤ a ∧ a < b ∧ b < 30) → Small (mergeT kvs more)
  | [], _, h, _ => h
  | p :: r, kvs, h, hm => by
    obtain ⟨a, b, e, h0, h1, h2⟩ := hm p List.mem_cons_self
    have h3 := h.put (v := p.2) h0 h1 h2
    rw [← e] at h3
    exact Small.merge (more := r) h3 fun q hq => hm q (List.mem_cons_of_mem _ hq)
theorem Small.apart {P : Program} {w : World} {kvs : List (List Key × V)} (h : Small kvs) : (kvs.map fun p => tupleKeyHash (mixKind P w) p.1).Nodup := by
  have e : (kvs.map fun p => tupleKeyHash (mixKind P w) p.1) = (kvs.map (·.1)).map fun k => tupleKeyHash (mixKind P w) k := by
    rw [List.map_map]
    rfl
  rw [e]
  refine nodup_inj h.nodup fun x hx y hy exy => ?_
  obtain ⟨p, hp', rfl⟩ := List.mem_map.mp hx
  obtain ⟨q, hq, rfl⟩ := List.mem_map.mp hy
  obtain ⟨a, b, e1, h0, h1, h2⟩ := h.key p hp'
  obtain ⟨c, d, e2, g0, g1, g2⟩ := h.key q hq
  show p.1 = q.1
  have exy' : tupleKeyHash (mixKind P w) p.1 = tupleKeyHash (mixKind P w) q.1 := exy
  rw [e1, e2, hp_eq, hp_eq] at exy'
  have e3 := inj_of_nodup hp_nodup (dom30_mem h0 h1 h2) (dom30_mem g0 g1 g2) exy'
  rw [e1, e2, (Prod.mk.injEq ..  ▸ e3 : a = c ∧ b = d).1, (Prod.mk.injEq .. ▸ e3 : a = c ∧ b = d).2]
theorem kt_map {H : Hp} {P : Program} {w : World} : ∀ {kvs : List (List Key × V)} {xs : List (List Key × Addr × Value)}, KT H kvs xs → (xs.map fun x => (tupleKind (mixKind P w)).hash x.1) = kvs.map fun p => tupleKeyHash (mixKind P w) p.1
  | _, _, .nil => rfl
  | _, _, .cons h t => by
    rw [List.map_cons, List.map_cons, kt_map t, ← h.1]
    rfl
theorem kt_all {H : Hp} : ∀ {kvs : List (List Key × V)} {xs : List (List Key × Addr × Value)}, KT H kvs xs → ∀ x ∈ xs, ∃ k : List Key, H x.2.1 = some (.tup (k.map kV))
  | _, _, .nil, x, hx => by cases hx
  | _, _, .cons h t, x, hx => by
    rcases List.mem_cons.mp hx with rfl | hx
    · exact ⟨_, h.2.1⟩
    · exact kt_all t x hx
section
variable {X : Cx}
/-- d.update(e), two dicts of tuples -/
theorem mt_updT (hu : X.A.units + 1 < cLine) : MtR X "dict.update" (fun x xs H Q => ∃ (d o : Addr) (kvs more : List (List Key × V)), x = .ref d ∧ xs = [.ref o] ∧ H d = some (.dT kvs) ∧ H o = some (.dT more) ∧ d ≠ o ∧ kvs.length + more.length ≤ sizeLine ∧
    (more.map fun p => tupleKeyHash (mixKind X.prog X.w) p.1).Nodup ∧ Q .non (upd H d (.dT (mergeT kvs more)))) := by
  intro pins s σ H x xs v us Q I rx rv h
  obtain ⟨d, o, kvs, more, rfl, rfl, hd, ho, hne, hsz, hap, q⟩ := h
  cases rx
  obtain ⟨u, rfl, ru⟩ := rv.one
  cases ru
  obtain ⟨z1, l1, vs, rel1, dd1⟩ := dt_of I.hok hd
  obtain ⟨z2, l2, ws, rel2, dd2⟩ := dt_of I.hok ho
  refine call_update_dictH (knd := tupleKind (mixKind X.prog X.w)) (tupleKind_room_in1 hu) hne l2 dd1 dd2 (.inr ⟨fun y hy => ?_, ?_⟩) (by rw [← Paired.length rel1, ← Paired.length rel2]; exact hsz) fun h' hd' ho' hs => ?_
  · obtain ⟨k, hk⟩ := kt_all rel2 y hy
    obtain ⟨its, r, pl, _⟩ := I.tuple (st_of hk)
    exact pl.typeIs
  · rw [kt_map rel2]
    exact hap
  · have hml : (mergeT kvs more).length ≤ sizeLine := Nat.le_trans (length_mergeT more kvs) hsz
    obtain ⟨q', es, ep, hq, h2, h3, h4, _, h5⟩ := hd'
    refine ⟨.non, upd H d (.dT (mergeT kvs more)), d_write I (by rw [hd]; exact True.intro) hs ⟨q', hq⟩ ⟨hml, l1, _, (KT.merge rel2 rel1).keeps fun c ys ec => ?_, q', es, ep, hq, h2, h3, h4, h5⟩, rfl, q⟩
    rw [upd_ne (ne_of ec hd (fun z => nomatch z))]
    exact ec
end
section
variable {K : PySem.W.Frag} {σ : L2.St} {B H : Hp} {S : List Addr} {te ta tb tl : TE} {D : Ends}
theorem lc_rng1 {g : TG} {tt : TT} {vs : List Nat} {Q : VK} (h : ta σ H fun x H1 => tLc (iRng1 (tCons (tC x) tNil)) g tt te vs σ H1 Q) : tLc (iRng1 (tCons ta tNil)) g tt te vs σ H Q := h
/-- dict([((a, b), ..), ..]): a dict of its own -/
theorem dtup_new {ks : List (Int × Int)} {f : Int × Int → PyData} (h : EvD K ta σ B (.list (ks.map fun k => .tuple [pairD k, f k]))) (w : Wd S B H) {Q : VK}
    (q : ∀ o H' more, Ex H H' → H o = none → H' o = some (.dT more) → more.length ≤ ks.length → (more.map (·.1)).Nodup → (∀ p ∈ more, ∃ k ∈ ks, p.1 = kPair k.1 k.2) → (∀ x y : Int, (valV more (kPair x y)).isSome = true ↔ (x, y) ∈ ks) → Q (.ref o) H') : tCB (rDictT K) (tCons ta tNil) σ H Q :=
  (ea_cons h ea_nil).bind w fun vs B1 H1 e1 eB1 w1 rs => by
    cases rs with
    | cons r1 r2 =>
    cases r2
    cases r1 with
    | @lst a xs _ hs hd =>
    obtain ⟨ts, rfl, ht, hk⟩ := pairs_tups hd
    have e : (ts.map ((fun x => x.1) ∘ kvT)) = ks.map fun k => kPair k.1 k.2 := hk
    have hsub : ∀ (l : List (List Key × V)) (acc : List (List Key × V)) (p : List Key × V), p ∈ mergeT acc l → p.1 ∈ acc.map (·.1) ∨ p.1 ∈ l.map (·.1) := by
      intro l
      induction l with
      | nil => exact fun acc p hp => .inl (List.mem_map.mpr ⟨p, hp, rfl⟩)
      | cons y r ih =>
        intro acc p hp
        rcases ih (putK acc y.1 y.2) p hp with h | h
        · obtain ⟨z, hz, ez⟩ := List.mem_map.mp h
          rcases putK_mem hz with hz | hz
          · exact .inl (List.mem_map.mpr ⟨z, hz, ez⟩)
          · exact .inr (by rw [← ez, hz]; exact List.mem_cons_self)
        · exact .inr (List.mem_cons_of_mem _ h)
    have hnd : ∀ (l acc : List (List Key × V)), (acc.map (·.1)).Nodup → ((mergeT acc l).map (·.1)).Nodup := by
      intro l
      induction l with
      | nil => exact fun acc h => h
      | cons y r ih => exact fun acc h => ih (putK acc y.1 y.2) (putK_keys h)
    refine ⟨a, ts, rfl, ex_l w1.ex hs, fun t m => ⟨st_of (w1.ex _ _ (ht t m).1), w1.ex _ _ (ht t m).2⟩, fun p hp => q p _ _ (e1.trans (Ex.new hp)) (fresh_back e1 hp) upd_same ?_ (hnd _ _ List.nodup_nil) (fun x hx => ?_) fun x y => ?_⟩
    · have h1 := length_mergeT (ts.map kvT) []
      have h2 := congrArg List.length hk
      rw [List.length_map, List.length_map] at h2
      rw [List.length_nil, List.length_map] at h1
      omega
    · rcases hsub _ _ x hx with h | h
      · cases h
      · rw [List.map_map, e] at h
        obtain ⟨k, hk2, ek⟩ := List.mem_map.mp h
        exact ⟨k, hk2, ek.symm⟩
    · rw [mergeT_iff, List.map_map, e, valV_nil]
      constructor
      · rintro (h | h)
        · cases h
        · exact mem_kPair.mp h
      · exact fun h => .inr (mem_kPair.mpr h)
end
/-! ### rising pairs -/
def pltP (p q : Int × Int) : Prop := p.1 < q.1 ∨ p.1 = q.1 ∧ p.2 < q.2
theorem rising_eq : ∀ {l m : List (Int × Int)}, l.Pairwise pltP → m.Pairwise pltP → (∀ x, x ∈ l ↔ x ∈ m) → l = m
  | [], [], _, _, _ => rfl
  | [], b :: m, _, _, h => by cases (h b).mpr List.mem_cons_self
  | a :: l, [], _, _, h => by cases (h a).mp List.mem_cons_self
  | a :: l, b :: m, h1, h2, h => by
    rw [List.pairwise_cons] at h1 h2
    have irr : ∀ {p q : Int × Int}, pltP p q → pltP q p → False := fun {p q} x y => by
      unfold pltP at x y
      omega
    have e : a = b := by
      rcases List.mem_cons.mp ((h a).mp List.mem_cons_self) with e | e
      · exact e
      · rcases List.mem_cons.mp ((h b).mpr List.mem_cons_self) with e' | e'
        · exact e'.symm
        · exact (irr (h2.1 a e) (h1.1 b e')).elim
    subst e
    congr 1
    refine rising_eq h1.2 h2.2 fun x => ?_
    constructor
    · intro hx
      rcases List.mem_cons.mp ((h x).mp (List.mem_cons_of_mem _ hx)) with e | e
      · subst e
        exact (irr (h1.1 x hx) (h1.1 x hx)).elim
      · exact e
    · intro hx
      rcases List.mem_cons.mp ((h x).mpr (List.mem_cons_of_mem _ hx)) with e | e
      · subst e
        exact (irr (h2.1 x hx) (h2.1 x hx)).elim
      · exact e
end Pw

/-! ## PwDic -/
namespace Pw
open PySem L2 Evl

/-! ### t + u, t[lo:hi] of any tuples -/
section
variable {K : PySem.W.Frag} {σ : L2.St} {B H : Hp} {S : List Addr} {ta tb td ty te : TE} {ds es : List PyData} {d : PyData} {D : Ends}
theorem ev_catA (ha : EvD K ta σ B (.tuple ds)) (hb : EvD K tb σ B (.tuple es)) (hl : ds.length + es.length ≤ 100000) : EvD K (tOp (rCatA K) ta tb) σ B (.tuple (ds ++ es)) :=
  evR_of (fun S H w Q q => ha.bind w fun x B1 H1 e1 eB1 w1 rx => (hb.mono eB1).bind w1 fun y B2 H2 e2 eB2 w2 ry => by
    cases rx with
    | @tup a xs _ ha1 ha2 =>
    cases ry with
    | @tup b ys _ hb1 hb2 =>
    have hxl := DqAll.length ha2
    have hyl := DqAll.length hb2
    refine ⟨a, b, xs, ys, rfl, rfl, st_of (w2.ex _ _ (eB2 _ _ ha1)), st_of (w2.ex _ _ hb1), sz_of (by omega), fun z => ?_, fun _ z => ?_, fun _ _ p hp => ?_⟩
    · subst z
      cases ha2
      exact q _ B2 H2 (e1.trans e2) (eB1.trans eB2) w2 (.tup hb1 hb2)
    · subst z
      cases hb2
      rw [List.append_nil] at q
      exact q _ B2 H2 (e1.trans e2) (eB1.trans eB2) w2 (.tup (eB2 _ _ ha1) (DqAll.mono eB2 ha2))
    · exact q (.ref p) _ _ ((e1.trans e2).trans (Ex.new hp)) ((eB1.trans eB2).trans (w2.newE (o := .tup (xs ++ ys)) hp)) (w2.new hp) (.tup upd_same (DqAll.app (DqAll.mono (eB2.trans (w2.newE hp)) ha2) (DqAll.mono (w2.newE hp) hb2)))) stays_dp
theorem cutA_whole {α : Type} {xs : List α} {lo hi : Option Int} (h : HT.sIx xs.length 0 lo = 0 ∧ HT.sIx xs.length xs.length hi = xs.length) : cutA xs lo hi = xs := by
  unfold cutA
  rw [h.1, h.2, Nat.sub_zero]
  show (xs.drop 0).take xs.length = xs
  rw [List.drop_zero, List.take_length]
theorem ev_slA {tl th : TO} {lo hi : Option Int} (ha : EvD K ta σ B (.tuple ds)) (hl : EvP tl σ B lo) (hh : EvP th σ B hi) : EvD K (tSl (rSlA K) ta tl th) σ B (.tuple (cutA ds lo hi)) :=
  evR_of (fun S H w Q q => ha.bind w fun x B1 H1 e1 eB1 w1 rx => by
    cases rx with
    | @tup a xs _ hs hd =>
    refine hl.mono eB1 S H1 w1 _ fun H2 e2 => (hh.mono eB1) S H2 (w1.ext e2) _ fun H3 e3 => ⟨a, xs, rfl, st_of (e3 _ _ (e2 _ _ (w1.ex _ _ hs))), fun hn => ?_, fun hn p hp => ?_⟩
    · rw [DqAll.length hd] at hn
      have w3 := w1.ext (e2.trans e3)
      rw [cutA_whole hn] at q
      exact q (.ref a) _ _ (e1.trans (e2.trans e3)) eB1 w3 (.tup hs hd)
    · have w3 := w1.ext (e2.trans e3)
      exact q (.ref p) _ _ (e1.trans ((e2.trans e3).trans (Ex.new hp))) (eB1.trans (w3.newE (o := .tup (cutV xs lo hi)) hp)) (w3.new hp) (.tup upd_same (DqAll.mono (w3.newE hp) (dqAll_cut hd lo hi)))) stays_dp

/-! ### dicts of pairs with data as values -/
structure KvIn (K : PySem.W.Frag) (B : Hp) {α : Type} (l : List α) (key : α → Int × Int) (val : α → PyData) (kvs : List (List Key × V)) : Prop where
  of : ∀ p ∈ kvs, ∃ a ∈ l, p.1 = kPair (key a).1 (key a).2 ∧ Dq K B p.2 (val a)
  nd : (kvs.map (·.1)).Nodup
  all : ∀ a ∈ l, kPair (key a).1 (key a).2 ∈ kvs.map (·.1)
  few : kvs.length ≤ l.length
theorem putK_has {κ : Type} [DecidableEq κ] {kvs : List (κ × V)} {k k' : κ} {v : V} : k' ∈ (putK kvs k v).map (·.1) ↔ k' = k ∨ k' ∈ kvs.map (·.1) := by
  rw [← isSome_iff, ← isSome_iff, valV_put]
  by_cases h : k' = k
  · rw [if_pos h]
    simp [h]
  · rw [if_neg h]
    simp [h]
variable {α : Type} {l : List α} {key : α → Int × Int} {val : α → PyData} {kvs : List (List Key × V)}
theorem KvIn.mono {B' : Hp} (h : KvIn K B l key val kvs) (e : Ex B B') : KvIn K B' l key val kvs := ⟨fun p hp => by
  obtain ⟨a, h1, h2, h3⟩ := h.of p hp
  exact ⟨a, h1, h2, Dq.mono e h3⟩, h.nd, h.all, h.few⟩
theorem KvIn.nil : KvIn K B ([] : List α) key val [] := ⟨(fun p h => by cases h), List.nodup_nil, (fun a h => by cases h), Nat.le_refl _⟩
theorem KvIn.put {a : α} {v : V} (h : KvIn K B l key val kvs) (hv : Dq K B v (val a)) : KvIn K B (l ++ [a]) key val (putK kvs (kPair (key a).1 (key a).2) v) := by
  refine ⟨fun p hp => ?_, putK_keys h.nd, fun x hx => ?_, ?_⟩
  · rcases putK_mem hp with hp | rfl
    · obtain ⟨x, h1, h2, h3⟩ := h.of p hp
      exact ⟨x, List.mem_append_left _ h1, h2, h3⟩
    · exact ⟨a, List.mem_append_right _ (List.mem_singleton.mpr rfl), rfl, hv⟩
  · rw [putK_has]
    rcases List.mem_append.mp hx with hx | hx
    · exact .inr (h.all x hx)
    · rw [List.mem_singleton.mp hx]
      exact .inl rfl
  · have h1 := length_putK kvs (kPair (key a).1 (key a).2) v
    have h2 := h.few
    rw [List.length_append]
    show _ ≤ l.length + 1
    omega
theorem valV_some {κ : Type} [DecidableEq κ] : ∀ {kvs : List (κ × V)} {k : κ}, k ∈ kvs.map (·.1) → ∃ v, valV kvs k = some v ∧ (k, v) ∈ kvs
  | [], _, h => by cases h
  | p :: r, k, h => by
    by_cases e : p.1 = k
    · subst e
      exact ⟨p.2, valV_pos rfl, List.mem_cons_self⟩
    · rw [List.map_cons] at h
      rcases List.mem_cons.mp h with h | h
      · exact absurd h.symm e
      · obtain ⟨v, h1, h2⟩ := valV_some (kvs := r) h
        exact ⟨v, by rw [valV_neg e]; exact h1, List.mem_cons_of_mem _ h2⟩
theorem KvIn.get {a : α} (h : KvIn K B l key val kvs) (ha : a ∈ l) : ∃ v b, valV kvs (kPair (key a).1 (key a).2) = some v ∧ b ∈ l ∧ key b = key a ∧ Dq K B v (val b) := by
  obtain ⟨v, h1, h2⟩ := valV_some (h.all a ha)
  obtain ⟨b, h3, h4, h5⟩ := h.of _ h2
  obtain ⟨e1, e2⟩ := kPair_inj h4
  exact ⟨v, b, h1, h3, Prod.ext e1.symm e2.symm, h5⟩
theorem KvIn.keys : ∀ {kvs : List (List Key × V)}, (∀ p ∈ kvs, ∃ a ∈ l, p.1 = kPair (key a).1 (key a).2 ∧ Dq K B p.2 (val a)) → ∃ ks : List (Int × Int), kvs.map (·.1) = (ks.map fun k => [k.1, k.2]).map (·.map Sum.inl) ∧ ks.length = kvs.length ∧ ∀ k ∈ ks, ∃ a ∈ l, key a = k
  | [], _ => ⟨[], rfl, rfl, fun k h => by cases h⟩
  | p :: r, h => by
    obtain ⟨ks, h1, h2, h3⟩ := KvIn.keys (kvs := r) fun q hq => h q (List.mem_cons_of_mem _ hq)
    obtain ⟨a, ha, e, _⟩ := h p List.mem_cons_self
    refine ⟨key a :: ks, ?_, by rw [List.length_cons, List.length_cons, h2], fun k hk => ?_⟩
    · rw [List.map_cons, List.map_cons, List.map_cons, h1, e]
      rfl
    · rcases List.mem_cons.mp hk with rfl | hk
      · exact ⟨a, ha, rfl⟩
      · exact h3 k hk
theorem pairs_tupsV : ∀ {l : List α} {xs : List V}, DqAll K B xs (l.map fun a => .tuple [pairD (key a), val a]) →
    ∃ ts : List PairT, xs = ts.map (fun t => V.ref t.1) ∧ (∀ t ∈ ts, B t.1 = some (.tup [.ref t.2.1, t.2.2.2]) ∧ B t.2.1 = some (.tup (t.2.2.1.map V.int))) ∧ ∀ (acc : List (List Key × V)) (done : List α), KvIn K B done key val acc → KvIn K B (done ++ l) key val (mergeT acc (ts.map kvT))
  | [], _, h => by cases h; exact ⟨[], rfl, (fun t ht => by cases ht), fun acc done h => by rw [List.append_nil]; exact h⟩
  | a :: l, _, h => by
    cases h with
    | cons h1 h2 =>
    obtain ⟨ts, rfl, h3, h4⟩ := pairs_tupsV h2
    cases h1 with
    | @tup c ys _ hs hd =>
    cases hd with
    | @cons y1 _ _ _ q1 t =>
    cases t with
    | @cons y2 _ _ _ q2 t =>
    cases t
    cases q1 with
    | @tup b zs _ hb hz =>
    have ez := DqAll.ints_eq (ns := [(key a).1, (key a).2]) hz
    subst ez
    refine ⟨(c, b, [(key a).1, (key a).2], y2) :: ts, rfl, fun t ht => ?_, fun acc done hK => ?_⟩
    · rcases List.mem_cons.mp ht with rfl | ht
      · exact ⟨hs, hb⟩
      · exact h3 t ht
    · have g := h4 _ _ (hK.put (a := a) q2)
      rw [List.append_assoc] at g
      exact g
/-- dict([((a, b), x), ..]): a dict of its own -/
theorem dtupV_new (h : EvD K ta σ B (.list (l.map fun a => .tuple [pairD (key a), val a]))) (w : Wd S B H) {Q : VK}
    (q : ∀ o B' H' kvs, Ex H H' → Ex B B' → H o = none → H' o = some (.dT kvs) → Wd (o :: S) B' H' → KvIn K B' l key val kvs → Q (.ref o) H') : tCB (rDictT K) (tCons ta tNil) σ H Q :=
  (ea_cons h ea_nil).bind w fun vs B1 H1 e1 eB1 w1 rs => by
    cases rs with
    | cons r1 r2 =>
    cases r2
    cases r1 with
    | @lst a xs _ hs hd =>
    obtain ⟨ts, rfl, ht, hk⟩ := pairs_tupsV hd
    refine ⟨a, ts, rfl, ex_l w1.ex hs, fun t m => ⟨st_of (w1.ex _ _ (ht t m).1), w1.ex _ _ (ht t m).2⟩, fun p hp => q p B1 _ _ (e1.trans (Ex.new hp)) eB1 (fresh_back e1 hp) upd_same (w1.own hp) ?_⟩
    have g := hk [] [] KvIn.nil
    rw [List.nil_append] at g
    exact g
/-- such a dict, told and staying -/
def DicAt (kvs : List (List Key × V)) (v : V) (B : Hp) : Prop := ∃ d, v = .ref d ∧ B d = some (.dT kvs)
theorem stays_dic : Stays (DicAt kvs) := fun v B B' e ⟨d, h1, h2⟩ => ⟨d, h1, e _ _ h2⟩
def rSortDT (K : PySem.W.Frag) : List V → Hp → VK → Prop := fun vs H Q => ∃ (a : Addr) (kvs : List (List Key × V)) (ks : List (List Int)), vs = [V.ref a] ∧ Rd H a (.dT kvs) ∧ kvs.map (·.1) = ks.map (·.map Sum.inl) ∧ (∀ k ∈ ks, k ≠ []) ∧
    ∀ (bs : List (Addr × List Int)) p, bs.map (·.2) = ks → (∀ b ∈ bs, H b.1 = some (.tup (b.2.map V.int))) → H p = none → Q (.ref p) (upd H p (.lst ((bs.mergeSort leTI).map fun b => V.ref b.1)))
theorem ev_dgetT {k : Int × Int} {v : V} (hd : EvR td σ B (DicAt kvs)) (hk : EvD K ty σ B (pairD k)) (hv : valV kvs (kPair k.1 k.2) = some v) (hq : Dq K B v d) : EvD K (tDGet td ty) σ B d :=
  evR_of (fun S H w Q q => hd.bind w fun x B1 H1 e1 eB1 w1 ⟨a, ex, ha⟩ => (hk.mono eB1).bind w1 fun y B2 H2 e2 eB2 w2 ry => by
    cases ry with
    | @tup b zs _ hb hz =>
    have ez := DqAll.ints_eq (ns := [k.1, k.2]) hz
    subst ez
    subst ex
    refine ⟨a, v, rfl, ?_, q v B2 H2 (e1.trans e2) (eB1.trans eB2) w2 (Dq.mono (eB1.trans eB2) hq)⟩
    have g := DGet.t (H := H2) (a := a) (kvs := kvs) (k := kPair k.1 k.2) (b := b) (w2.ex _ _ (eB2 _ _ ha)) (w2.ex _ _ hb)
    rw [hv] at g
    exact g) stays_dp
theorem st_retL {tA : TA} (h : tA σ H fun xs H1 => xs.length ≤ sizeLine ∧ ∀ p, H1 p = none → D.rt (.ref p) (upd H1 p (.lst xs))) : tRet (tLst tA) D σ H := h
theorem ac {tA : TA} {Q : List V → Hp → Prop} (h : ta σ H fun x H1 => tA σ H1 fun xs H2 => Q (x :: xs) H2) : tCons ta tA σ H Q := h
theorem an {Q : List V → Hp → Prop} (h : Q [] H) : tNil σ H Q := h
theorem a1 {Q : List V → Hp → Prop} (h : ta σ H fun x H1 => Q [x] H1) : tCons ta tNil σ H Q := h
theorem cb1 {r : List V → Hp → VK → Prop} {Q : VK} (h : ta σ H fun x H1 => r [x] H1 Q) : tCB r (tCons ta tNil) σ H Q := h
/-- [d[k] for k in sorted(d)] -/
theorem lc_byKeys {i j : Nat} {vs : List Nat} {d : Addr} {kvs : List (List Key × V)} {ks : List (Int × Int)} {f : Int × Int → PyData} (hv : σ[i]? = some (some (.ref d))) (hw : ∀ x, wipe ((wipe σ vs).set j (some x)) vs = wipe σ vs)
    (hi : ∀ x, ((wipe σ vs).set j (some x))[i]? = some (some (.ref d))) (hj : ∀ x, ((wipe σ vs).set j (some x))[j]? = some (some x)) (w : Wd S B H) (hd : H d = some (.dT kvs)) (hks : kvs.map (·.1) = (ks.map fun k => [k.1, k.2]).map (·.map Sum.inl))
    (hval : ∀ k ∈ ks, ∃ v, valV kvs (kPair k.1 k.2) = some v ∧ Dq K B v (f k)) (hl : ks.length ≤ 40000) {Q : VK}
    (q : ∀ v B' H' (ms : List (Int × Int)), ms.Perm ks → (ms.map fun k : Int × Int => [k.1, k.2]).Pairwise (· ≤ ·) → Ex H H' → Ex B B' → Wd S B' H' → Dq K B' v (.list (ms.map f)) → Q v H') :
    tLc (iList K (tCB (rSortDT K) (tCons (tVar i) tNil))) (gName j) tYes (tDGet (tVar i) (tVar j)) vs σ H Q := by
  refine ⟨_, hv, d, kvs, _, rfl, .of hd, hks, fun k hk => ?_, fun bs L hbs hbt hL => ?_⟩
  · obtain ⟨k', _, rfl⟩ := List.mem_map.mp hk
    exact List.cons_ne_nil _ _
  have w1 := w.ext (Ex.new (o := .lst ((bs.mergeSort leTI).map fun b => V.ref b.1)) hL)
  have e1 : Ex H (upd H L (.lst ((bs.mergeSort leTI).map fun b => V.ref b.1))) := Ex.new hL
  refine ⟨L, rfl, ⟨_, sq_of upd_same⟩, fun D hD => ?_⟩
  have hL1 : upd H L (.lst ((bs.mergeSort leTI).map fun b => V.ref b.1)) L = some (.lst ((bs.mergeSort leTI).map fun b => V.ref b.1)) := upd_same
  generalize upd H L (.lst ((bs.mergeSort leTI).map fun b => V.ref b.1)) = H1 at w1 e1 hL1 hD ⊢
  let g : Addr × List Int → Int × Int := fun b => (b.2.getD 0 0, b.2.getD 1 0)
  have hb2 : ∀ b ∈ bs, ∃ k ∈ ks, b.2 = [k.1, k.2] := fun b hb => by
    have h1 : b.2 ∈ bs.map (·.2) := List.mem_map.mpr ⟨b, hb, rfl⟩
    rw [hbs] at h1
    obtain ⟨k, hk, e⟩ := List.mem_map.mp h1
    exact ⟨k, hk, e.symm⟩
  have hgk : bs.map g = ks := by
    have h1 := congrArg (List.map fun (x : List Int) => ((x.getD 0 0, x.getD 1 0) : Int × Int)) hbs
    rw [List.map_map, List.map_map] at h1
    refine h1.trans ((List.map_congr_left fun k _ => ?_).trans (List.map_id ks))
    rfl
  have hpm : ((bs.mergeSort leTI).map g).Perm ks := by
    rw [← hgk]
    exact (sortTI_perm bs).map g
  have hbl : bs.length = ks.length := by rw [← hgk, List.length_map]
  refine lc_list (K := K) (a := L) (xs := (bs.mergeSort leTI).map fun b => V.ref b.1) (fun n H' => Ex H1 H' ∧ ∃ B' acc, Ex B B' ∧ Wd (D :: S) B' H' ∧ H' D = some (.lst acc) ∧ DqAll K B' acc ((((bs.mergeSort leTI).map g).take n).map f))
    ⟨Ex.new hD, B, [], Ex.refl _, w1.own hD, upd_same, .nil⟩ (fun n H' _ h => sq_of (h.1 _ _ hL1)) ?_ ?_
  · rintro n x H2 hx ⟨e2, B2, acc, eB2, w2, hA, hdp⟩
    rw [List.getElem?_map] at hx
    obtain ⟨bb, hbb, rfl⟩ := Option.map_eq_some_iff.mp hx
    have hmem : bb ∈ bs := (sortTI_perm bs).mem_iff.mp (List.mem_of_getElem? hbb)
    obtain ⟨k, hk, ek⟩ := hb2 bb hmem
    obtain ⟨v, hv1, hv2⟩ := hval k hk
    have hbb2 : H2 bb.1 = some (.tup (bb.2.map V.int)) := e2 _ _ (e1 _ _ (hbt bb hmem))
    refine ⟨hw _, _, hi _, _, hj _, d, v, rfl, ?_, ?_⟩
    · have gg := DGet.t (H := H2) (a := d) (kvs := kvs) (k := kPair k.1 k.2) (b := bb.1) (e2 _ _ (e1 _ _ hd)) (by rw [hbb2, ek]; rfl)
      rw [hv1] at gg
      exact gg
    have hlen : acc.length ≤ 40000 := by
      rw [DqAll.length hdp, List.length_map, List.length_take, List.length_map, List.length_mergeSort]
      omega
    refine ⟨acc, hA, sz_lt (by omega), e2.mut hD, B2, acc ++ [v], eB2, w2.put List.mem_cons_self, upd_same, ?_⟩
    rw [List.take_add_one, List.map_append, List.getElem?_map, hbb]
    refine DqAll.snoc hdp ?_
    show Dq K B2 v (f (g bb))
    have eg : g bb = k := by
      show (bb.2.getD 0 0, bb.2.getD 1 0) = k
      rw [ek]
      rfl
    rw [eg]
    exact Dq.mono eB2 hv2
  · rintro H2 ⟨e2, B2, acc, eB2, w2, hA, hdp⟩
    have el : ((bs.mergeSort leTI).map fun b => V.ref b.1).length = ((bs.mergeSort leTI).map g).length := by rw [List.length_map, List.length_map]
    rw [el, List.take_length] at hdp
    refine q _ _ _ _ hpm ?_ (e1.trans e2) (eB2.trans w2.giveE) (w2.give hA (w1.nin hD)) (.lst (sq_of upd_same) (DqAll.mono w2.giveE hdp))
    rw [List.map_map, List.pairwise_map]
    refine (sortTI_le bs).imp_of_mem fun {b c} hb hc h => ?_
    obtain ⟨k1, _, z1⟩ := hb2 b ((sortTI_perm bs).mem_iff.mp hb)
    obtain ⟨k2, _, z2⟩ := hb2 c ((sortTI_perm bs).mem_iff.mp hc)
    show [b.2.getD 0 0, b.2.getD 1 0] ≤ [c.2.getD 0 0, c.2.getD 1 0]
    rw [z1, z2] at h ⊢
    exact h
end
end Pw

/-! ## PwXs -/
namespace Pw
open PySem L2 Evl
/-! ### tuples and sums of tuples of which a part draws -/
abbrev DP (K : PySem.W.Frag) (P : PyData → Prop) (v : V) (B : Hp) : Prop := ∃ d, P d ∧ Dq K B v d
theorem stays_DP {K : PySem.W.Frag} {P : PyData → Prop} : Stays (DP K P) := fun v B B' e ⟨d, h1, h2⟩ => ⟨d, h1, Dq.mono e h2⟩
section
variable {K : PySem.W.Frag} {σ : L2.St} {B H : Hp} {S : List Addr} {b : Addr} {k m c : Nat} {te ta tb : TE} {P P1 P2 : PyData → Prop} {d : PyData} {D : Ends}
theorem EvR.dp (h : EvD K te σ B d) : EvX S b 0 te σ B (DP K fun x => x = d) := (EvR.x h).imp fun v B' r => ⟨d, rfl, r⟩
theorem ex_tup1 (h : EvX S b k te σ B (DP K P)) : EvX S b k (tTup (tCons te tNil)) σ B (DP K fun x => ∃ d, P d ∧ x = .tuple [d]) :=
  evX_of (fun H c w hbS hB hl Q q => h.bind w hbS hB hl fun v B1 H1 x1 eB1 w1 hB1 ⟨d, hP, hd⟩ => ⟨Nat.le_of_ble_eq_true rfl, fun p hp =>
    q (.ref p) (upd B1 p (.tup [v])) _ (x1.trans (Xs.of (Ex.new hp))) (eB1.trans (w1.newE hp)) (w1.new hp) (hB1.ex (Ex.new hp)) ⟨_, ⟨d, hP, rfl⟩, .tup upd_same (.cons (Dq.mono (w1.newE hp) hd) .nil)⟩⟩) stays_DP
theorem ex_tup2 (h1 : EvX S b k ta σ B (DP K P1)) (h2 : EvX S b m tb σ B (DP K P2)) : EvX S b (k + m) (tTup (tCons ta (tCons tb tNil))) σ B (DP K fun x => ∃ d1 d2, P1 d1 ∧ P2 d2 ∧ x = .tuple [d1, d2]) :=
  evX_of (fun H c w hbS hB hl Q q => h1.bind w hbS hB (by omega) fun v B1 H1 x1 eB1 w1 hB1 ⟨d1, hP1, hd1⟩ => (h2.mono eB1).bind w1 hbS hB1 (by omega) fun u B2 H2 x2 eB2 w2 hB2 ⟨d2, hP2, hd2⟩ => ⟨Nat.le_of_ble_eq_true rfl, fun p hp =>
    q (.ref p) (upd B2 p (.tup [v, u])) _ ((x1.trans x2).trans (Xs.of (Ex.new hp))) ((eB1.trans eB2).trans (w2.newE hp)) (w2.new hp) ((hB2.ex (Ex.new hp)).mono (by omega)) ⟨_, ⟨d1, d2, hP1, hP2, rfl⟩, .tup upd_same (.cons (Dq.mono (eB2.trans (w2.newE hp)) hd1) (.cons (Dq.mono (w2.newE hp) hd2) .nil))⟩⟩) stays_DP
theorem ex_catA (h1 : EvX S b k ta σ B (DP K P1)) (h2 : EvX S b m tb σ B (DP K P2)) (hl : ∀ d1 d2, P1 d1 → P2 d2 → ∃ xs ys, d1 = .tuple xs ∧ d2 = .tuple ys ∧ xs.length + ys.length ≤ 100000) :
    EvX S b (k + m) (tOp (rCatA K) ta tb) σ B (DP K fun x => ∃ xs ys, P1 (.tuple xs) ∧ P2 (.tuple ys) ∧ x = .tuple (xs ++ ys)) :=
  evX_of (fun H c w hbS hB hlid Q q => h1.bind w hbS hB (by omega) fun v B1 H1 x1 eB1 w1 hB1 ⟨d1, hP1, hd1⟩ => (h2.mono eB1).bind w1 hbS hB1 (by omega) fun u B2 H2 x2 eB2 w2 hB2 ⟨d2, hP2, hd2⟩ => by
    obtain ⟨xs, ys, rfl, rfl, hlen⟩ := hl d1 d2 hP1 hP2
    have h3 : tOp (rCatA K) (tC v) (tC u) σ H2 Q := (ev_catA (K := K) (σ := σ) (ta := tC v) (tb := tC u) (ev_c (Dq.mono eB2 hd1)) (ev_c hd2) hlen).bind w2 fun r B3 H3 e3 eB3 w3 hr => q r B3 H3 ((x1.trans x2).trans (Xs.of e3)) (eB1.trans (eB2.trans eB3)) w3 ((hB2.ex e3).mono (by omega)) ⟨_, ⟨xs, ys, hP1, hP2, rfl⟩, hr⟩
    exact h3) stays_DP
theorem st_next (h : D.nx σ H) : tNext D σ H := h
theorem st_par {i j : Nat} (h : ta σ H fun x H1 => tb σ H1 fun y H2 => ∃ v w, [x, y] = [v, w] ∧ D.nx ((σ.set i (some v)).set j (some w)) H2) : tPar i j (tCons ta (tCons tb tNil)) D σ H := h
theorem ex_ret (h : EvX S b k te σ B (DP K P)) (w : Wd S B H) (hb : b ∈ S) (hB : BoxAt H b c) (hl : c + k ≤ lid) (q : ∀ v d H', P d → Xs [b] H H' → BoxAt H' b (c + k) → Dq K (mi H' S) v d → D.rt v H') : tRet te D σ H :=
  h.bind w hb hB hl fun v B1 H1 x1 eB1 w1 hB1 ⟨d, hP, hd⟩ => q v d H1 hP x1 hB1 (Dq.mono (ex_mi w1.ex w1.no) hd)
end
end Pw

/-! ## PwIter -/
namespace Pw
open PySem PySem.Spec PyProof.Rows L2 Evl

/-! ### zip over lists and tuples in any mix, enumerate over a list or a tuple -/
/-- the sequence at a: t says whether it is a tuple -/
def SqO (t : Bool) (K : PySem.W.Frag) (H : Hp) (a : Addr) (xs : List V) : Prop := match t with
  | true => SqT K H a xs
  | false => SqL K H a xs
def SeqH (t : Bool) (h : Heap) (a : Addr) (its : Array Value) : Prop := match t with
  | true => h.IsTuple a its
  | false => h.IsList a its
def IterH (t : Bool) (h : Heap) (i a : Addr) (k : Nat) : Prop := match t with
  | true => h.IsTupleIter i a k
  | false => h.IsListIter i a k
section
variable {X : Cx} {pins : List (Addr × Obj)} {σ : L2.St} {H : Hp} {s : Shared} {t : Bool} {a : Addr} {xs ys : List V}
theorem seqO (I : L2.Inv X pins σ H s) (h : SqO t X.K H a xs) : ∃ its : List Value, Vals xs its ∧ SeqH t s.heap a its.toArray ∧ a < s.heap.objs.size := by
  cases t with
  | true =>
    obtain ⟨its, rv, p, _⟩ := I.tuple h
    refine ⟨its, rv, p, ?_⟩
    obtain ⟨o, ho, _⟩ := id p
    exact Heap.lt_size ho
  | false =>
    obtain ⟨its, rv, p, _⟩ := I.list h
    exact ⟨its, rv, p.isList, p.lt⟩
theorem seqO_inj (I : L2.Inv X pins σ H s) (h : SqO t X.K H a xs) (g : SqO t X.K H a ys) : xs = ys := by
  cases t with
  | true => exact I.tuple_inj h g
  | false => exact I.list_inj h g
end
theorem iterH_at {t : Bool} {h h' : Heap} {i a : Addr} {k : Nat} (q : IterH t h i a k) (e : ∀ o, h.get? i = some o → h'.get? i = some o) : IterH t h' i a k := by
  cases t with
  | true => exact Heap.IsTupleIter.at q e
  | false => exact Heap.IsListIter.at q e
theorem iterH_obj {t : Bool} {h : Heap} {i a : Addr} {k : Nat} (q : IterH t h i a k) : ∃ o, h.get? i = some o ∧ ∀ v, o.data ≠ .cell v := by
  cases t with
  | true =>
    obtain ⟨o, e, _, d⟩ := (show h.IsTupleIter i a k from q)
    exact ⟨o, e, fun v z => by rw [d] at z; cases z⟩
  | false =>
    obtain ⟨o, e, _, d⟩ := (show h.IsListIter i a k from q)
    exact ⟨o, e, fun v z => by rw [d] at z; cases z⟩
theorem draws_of {prog : Program} {w : World} {A : Around} (t : Bool) (hh : A.handled = none) (i a : Addr) (ne : a ≠ i) (its : Array Value) :
    Draws prog w A i [i, a] its.size (fun k v => its[k]? = some v) (fun k h => IterH t h i a k ∧ SeqH t h a its) := by
  cases t with
  | true => exact Draws.tuple hh i a ne its
  | false => exact Draws.list hh i a ne its
/-- how iter(..) of such a sequence begins -/
theorem begins_of (t : Bool) (a : Addr) (its : Array Value) : ∃ o, Begins (.ref a) o (fun h => SeqH t h a its) ∧ ∀ h i, h.get? i = some o → IterH t h i a 0 := by
  cases t with
  | true => exact ⟨_, begins_tuple a its, fun h i e => ⟨_, e, rfl, rfl⟩⟩
  | false => exact ⟨_, begins_list a its, fun h i e => ⟨_, e, rfl, rfl⟩⟩

/-! #### zip -/
def ItzO (t u : Bool) (K : PySem.W.Frag) (a b : Addr) : It :=
  ⟨fun i H => ∃ (xs ys : List V) (x y : V), SqO t K H a xs ∧ SqO u K H b ys ∧ xs[i]? = some x ∧ ys[i]? = some y,
   fun i H v H' => ∃ T x y, v = .ref T ∧ H T = none ∧ H' = upd H T (.tup [x, y]) ∧ (∀ xs, SqO t K H a xs → xs[i]? = some x) ∧ ∀ ys, SqO u K H b ys → ys[i]? = some y,
   fun i H => ∃ xs ys : List V, SqO t K H a xs ∧ SqO u K H b ys ∧ (xs.length = i ∧ i ≤ ys.length ∨ ys.length = i ∧ i ≤ xs.length)⟩
theorem turnZ {P : Program} {w : World} {K : PySem.W.Frag} {elts : List Expr} {kk : Nat} {tpos : Pos} (t u : Bool) {a b z T1 T2 i1 i2 : Addr} (S : ZipSep2 z T1 T2 i1 i2 [i1, a] [i2, b]) (na : a ≠ i1) (nb : b ≠ i2) :
    Turn P w K (.Tuple elts kk tpos) (ItzO t u K a b) [z, T1, T2, i1, i2] z (fun i h => IsZip h z T1 T2 .none ∧ IsTupOf2 h T1 (.ref i1) (.ref i2) ∧ (∃ x y, IsTupOf2 h T2 x y) ∧ IterH t h i1 a i ∧ IterH u h i2 b i) := by
  have five : ∀ {c : Addr}, c ∈ [z, T1, T2, i1, i2] → c = z ∨ c = T1 ∨ c = T2 ∨ c = i1 ∨ c = i2 := fun {c} m => by simpa using m
  refine { mem := List.mem_cons_self, obj := ?_, keep := ?_, item := ?_, done := ?_, self := fun A i s Q E st h => wpAny_pyIter_zip st.1 h }
  · rintro i h ⟨hz, h1, ⟨x, y, h2⟩, g1, g2⟩ c m
    rcases five m with e | e | e | e | e <;> subst e
    · exact ⟨_, hz, fun v q => nomatch q⟩
    · exact ⟨_, h1, fun v q => nomatch q⟩
    · exact ⟨_, h2, fun v q => nomatch q⟩
    · exact iterH_obj g1
    · exact iterH_obj g2
  · rintro i h h' ⟨hz, h1, ⟨x, y, h2⟩, g1, g2⟩ k
    exact ⟨k z (by simp) _ hz, k T1 (by simp) _ h1, ⟨x, y, k T2 (by simp) _ h2⟩, iterH_at g1 fun o => k i1 (by simp) o, iterH_at g2 fun o => k i2 (by simp) o⟩
  · intro X eP ew eK calm i pins s σ H E I fp ⟨hz, h1, ⟨x0, y0, h2⟩, g1, g2⟩ ⟨xs, ys, x, y, qa, qb, hx, hy⟩
    subst eP ew eK
    obtain ⟨its, r1, q1, _⟩ := seqO I qa
    obtain ⟨jts, r2, q2, _⟩ := seqO I qb
    obtain ⟨ux, eux, rux⟩ := r1.get hx
    obtain ⟨uy, euy, ruy⟩ := r2.get hy
    have lx := (List.getElem?_eq_some_iff.mp eux).1
    have ly := (List.getElem?_eq_some_iff.mp euy).1
    have hzl : z < s.heap.objs.size := Heap.lt_size hz
    have hh : X.A.in1.handled = none := I.ok.hd calm
    refine wpAny_pyNext_zipD2_item S (draws_of t hh i1 a na its.toArray) (draws_of u hh i2 b nb jts.toArray) hz h1 h2 ⟨g1, q1⟩ ⟨g2, q2⟩ (by simpa using lx) (by simpa using ly) fun u1 u2 h' tk e1 e2 hz' h2' ⟨g1', _⟩ ⟨g2', _⟩ hn hsz hk => ?_
    have e1' : u1 = ux := by
      have e := e1
      rw [List.getElem?_toArray, eux] at e
      exact (Option.some.inj e).symm
    have e2' : u2 = uy := by
      have e := e2
      rw [List.getElem?_toArray, euy] at e
      exact (Option.some.inj e).symm
    subst e1' e2'
    refine ⟨_, rfl, wpAny_letOwnedTupleGo_zip (s := { s with heap := h', toks := tk }) hz' fun h3 hz3 sb => ?_⟩
    have hn3 : h3.get? s.heap.objs.size = some { cls := .type "tuple", data := .seq #[u1, u2] } := (sb.2 _ (Nat.ne_of_gt hzl)).trans hn
    have nobj : ObjOk X.prog X.w (upd H s.heap.objs.size (.tup [x, y])) h3 s.heap.objs.size (.tup [x, y]) := ⟨by show 2 ≤ sizeLine; decide, [u1, u2], .cons rux (.cons ruy .nil), ⟨_, hn3, rfl, _, rfl⟩⟩
    have back : ∀ c o, c ∉ [z, T1, T2, i1, i2] → s.heap.get? c = some o → h3.get? c = some o := fun c o m e => by
      have m1 : c ≠ z := fun q => m (by rw [q]; simp)
      exact (sb.2 c m1).trans (hk c o m1 (fun q => m (by rw [q]; simp)) (fun q => m (by rw [q]; simp)) (fun q => m (by rw [q]; simp)) e)
    have J : L2.Inv X pins σ (upd H s.heap.objs.size (.tup [x, y])) { s with heap := h3, toks := tk } := I.turnedNew (t' := tk) (ch := [z, T1, T2, i1, i2]) back fp (Nat.le_refl _) nobj
    refine ⟨.ref s.heap.objs.size, _, J, rfl, ⟨_, x, y, rfl, I.hok.fresh (Nat.le_refl _), rfl, fun l hl => by rw [seqO_inj I hl qa]; exact hx, fun l hl => by rw [seqO_inj I hl qb]; exact hy⟩, ⟨hz3, ?_, ⟨u1, u2, (sb.2 _ S.TOz).trans h2'⟩, iterH_at g1' fun o e => (sb.2 _ S.zi1.symm).trans e, iterH_at g2' fun o e => (sb.2 _ S.zi2.symm).trans e⟩, fun c m => ?_⟩
    · exact (sb.2 _ S.TIz).trans (hk _ _ S.TIz S.TITO S.TIi1 S.TIi2 h1)
    · have hc : c < s.heap.objs.size := by
        obtain ⟨o, e, _⟩ : ∃ o, s.heap.get? c = some o ∧ True := by
          rcases five m with e | e | e | e | e <;> subst e
          · exact ⟨_, hz, trivial⟩
          · exact ⟨_, h1, trivial⟩
          · exact ⟨_, h2, trivial⟩
          · obtain ⟨o, e, _⟩ := iterH_obj g1
            exact ⟨o, e, trivial⟩
          · obtain ⟨o, e, _⟩ := iterH_obj g2
            exact ⟨o, e, trivial⟩
        exact Heap.lt_size e
      rw [upd_ne (Nat.ne_of_lt hc)]
      exact (fp c m).1
  · intro X eP ew eK calm i pins s σ H E I fp ⟨hz, h1, ⟨x0, y0, h2⟩, g1, g2⟩ ⟨xs, ys, qa, qb, hend⟩
    subst eP ew eK
    obtain ⟨its, r1, q1, _⟩ := seqO I qa
    obtain ⟨jts, r2, q2, _⟩ := seqO I qb
    have l1 := r1.length
    have l2 := r2.length
    have hh : X.A.in1.handled = none := I.ok.hd calm
    refine wpAny_pyNext_zipD2_end S (draws_of t hh i1 a na its.toArray) (draws_of u hh i2 b nb jts.toArray) hz h1 h2 ⟨g1, q1⟩ ⟨g2, q2⟩ (by rw [List.size_toArray]; omega) (by rw [List.size_toArray]; omega) (by rw [List.size_toArray, List.size_toArray]; omega) fun h' tk hk => ⟨rfl, I.turnedL (t' := tk) (ch := [z, T1, T2, i1, i2]) (fun c o m e => ?_) fp⟩
    exact hk c o (fun q => m (by rw [q]; simp)) (fun q => m (by rw [q]; simp)) (fun q => m (by rw [q]; simp)) (fun q => m (by rw [q]; simp)) e
def iZipO (t u : Bool) (K : PySem.W.Frag) (ta : TA) : TI := fun σ H R => ta σ H fun vs H1 => ∃ a b xs ys, vs = [.ref a, .ref b] ∧ SqO t K H1 a xs ∧ SqO u K H1 b ys ∧ R (ItzO t u K a b) H1
theorem pi_zipO {X : Cx} {e e2 : Expr} {ta : TA} {p pos tpos : Pos} {elts : List Expr} {kk : Nat} (t u : Bool) (hg : Gl X "zip") (hm : X.mg "zip" = none) (ha : PA X [e, e2] ta)
    (hs : starEach [e, e2] X.env = (false, eval e X.env) :: starEach [e2] X.env := by rfl) (hpl : (backTo pos (starEach [e2] X.env)).any (·.1) = false := by rfl) :
    PI X (.Tuple elts kk tpos) (.Call (.Name "zip" p) [e, e2] [] pos) (iZipO t u X.K ta) := by
  refine ⟨fun pins s σ H R I h => Call_ (ld_blt I hg hm PyProof.Rows.boot_zip (PyProof.Rows.callWith_type1 (thn (ha.run pos pins s σ H _ I h) fun us s1 ⟨vs, H1, I1, r1, a, b, xs, ys, ev, qa, qb, q⟩ => ?_) hs hpl))⟩
  subst ev
  cases r1 with
  | cons r rr => cases rr with
    | cons r' rr =>
      cases rr
      cases r
      cases r'
      obtain ⟨its, _, q1, la⟩ := seqO I1 qa
      obtain ⟨jts, _, q2, lb⟩ := seqO I1 qb
      obtain ⟨o1, B1, n1⟩ := begins_of t a its.toArray
      obtain ⟨o2, B2, n2⟩ := begins_of u b jts.toArray
      refine zip_begins2 B1 B2 q1 q2 fun h' hz h1 h2 g1 g2 hsz hk => wpAny_pyIter_zip hz ?_
      have J : L2.Inv X pins σ H1 { s1 with heap := h' } := I1.kept (t' := s1.toks) hk
      refine ⟨_, [s1.heap.objs.size + 4, s1.heap.objs.size + 2, s1.heap.objs.size + 3, s1.heap.objs.size, s1.heap.objs.size + 1], _, _, H1, rfl, J,
        turnZ t u (zip_sep2 (N := s1.heap.objs.size) (fp1 := [a]) (fp2 := [b]) (fun c m => by rw [List.mem_singleton.mp m]; exact la) (fun c m => by rw [List.mem_singleton.mp m]; exact lb)) (Nat.ne_of_lt la) (Nat.ne_of_lt (Nat.lt_succ_of_lt lb)), ⟨hz, h1, ⟨_, _, h2⟩, n1 _ _ g1, n2 _ _ g2⟩, fun c m => ?_, q⟩
      have hle : s1.heap.objs.size ≤ c := by
        simp only [List.mem_cons, List.not_mem_nil, or_false] at m
        rcases m with e | e | e | e | e <;> rw [e]
        · exact Nat.le_add_right _ _
        · exact Nat.le_add_right _ _
        · exact Nat.le_add_right _ _
        · exact Nat.le_refl _
        · exact Nat.le_add_right _ _
      exact I1.fpOk hle (I1.hok.fresh hle)

/-! #### enumerate -/
def enumObj (N : Addr) : Obj := { cls := .type "enumerate", data := .fields #[.none, .bool false, .ref N, rawInt 0, .none, .none] }
theorem meetsEnum {v : Value} {ob : Obj} {H0 : Heap → Prop} (B : Begins v ob H0) :
    Meets (Builtin.«enumerate.__new__» ⟨[.type "enumerate", v], []⟩) (fun _ R s => H0 s.heap ∧ R (.ok (.ret (.ref (s.heap.push ob).objs.size))) { s with heap := (s.heap.push ob).push (enumObj s.heap.objs.size) }) :=
  .of_wp fun pr w1 A1 R1 s1 hyp => by
    obtain ⟨hp, ge, dr, tk, os⟩ := s1
    obtain ⟨b0, hyp⟩ := hyp
    have subE := sub_enumerate
    have itr : ∀ {A2 : Around} {E2 : Value → Shared → Prop} {Q2 : Value → Shared → Prop}, Q2 (.ref hp.objs.size) ⟨hp.push ob, ge, dr, tk, os⟩ → wpAny (model pr w1) A2 (pyIter v) Q2 E2 ⟨hp, ge, dr, tk, os⟩ := fun q => B.iter pr w1 _ _ ⟨hp, ge, dr, tk, os⟩ _ b0 q
    wp_walk using itr
    refine wpAny_stack_any fun stk => wpAny_pure ?_
    split
    · rename_i cl _ _ _ _ _
      cases (cl == Value.type "enumerate") <;> (wp_walk using itr; exact ⟨_, rfl, hyp⟩)
    · wp_walk using itr
      exact ⟨_, rfl, hyp⟩
theorem call_enumO {prog : Program} {w : World} {A : Around} {E : Value → Shared → Prop} {s : Shared} {v : Value} {ob : Obj} {H0 : Heap → Prop} {Q : Value → Shared → Prop} (B : Begins v ob H0) (b0 : H0 s.heap)
    (q : ∀ h', IsEnum h' (s.heap.objs.size + 1) s.heap.objs.size 0 .none → h'.get? s.heap.objs.size = some ob → (∀ c o, s.heap.get? c = some o → h'.get? c = some o) → Q (.ref (s.heap.objs.size + 1)) { s with heap := h' }) :
    wpAny (model prog w) A (call (.type "enumerate") [v]) Q E s := by
  have sz : (s.heap.push ob).objs.size = s.heap.objs.size + 1 := Heap.size_push ..
  refine callType_new F.called_enumerate (by decide) (F.typeCall_enumerate_1 _) (F.newCall_enumerate_1 _) (fun x => F.args_object_init_2 x _) F.entry_enumerate_new (meetsEnum B) ⟨b0, ?_⟩
  have top : ((s.heap.push ob).push (enumObj s.heap.objs.size)).get? (s.heap.push ob).objs.size = some (enumObj s.heap.objs.size) := Heap.get?_push_size _ rfl
  rw [sz] at top
  show _ ∧ _
  rw [sz]
  exact ⟨⟨_, top, rfl⟩, q _ top (Heap.get?_push_of_some _ (Heap.get?_push_size _ B.free)) fun c o e => Heap.get?_push_of_some _ (Heap.get?_push_of_some _ e)⟩
def IteO (t : Bool) (K : PySem.W.Frag) (a : Addr) : It :=
  ⟨fun i H => ∃ (xs : List V) (x : V), SqO t K H a xs ∧ xs[i]? = some x,
   fun i H v H' => ∃ T x, v = .ref T ∧ H T = none ∧ H' = upd H T (.tup [.int (i : Nat), x]) ∧ ∀ xs, SqO t K H a xs → xs[i]? = some x,
   fun i H => ∃ xs : List V, SqO t K H a xs ∧ xs.length = i⟩
theorem turnE {P : Program} {w : World} {K : PySem.W.Frag} {elts : List Expr} {kk : Nat} {tpos : Pos} (t : Bool) {a e it : Addr} (hne : e ≠ it) (na : a ≠ it) (ea : e ≠ a) :
    Turn P w K (.Tuple elts kk tpos) (IteO t K a) [e, it] e (fun i h => (∃ old, IsEnum h e it ((i : Nat) : Int) old) ∧ IterH t h it a i) := by
  have two : ∀ {c : Addr}, c ∈ [e, it] → c = e ∨ c = it := fun {c} m => by simpa using m
  have nef : e ∉ [it, a] := fun m => by
    rcases List.mem_cons.mp m with z | z
    · exact hne z
    · exact ea (List.mem_singleton.mp z)
  refine { mem := List.mem_cons_self, obj := ?_, keep := ?_, item := ?_, done := ?_, self := fun A i s Q E st h => st.1.elim fun _ he => wpAny_pyIter_enum he h }
  · rintro i h ⟨⟨old, he⟩, g⟩ c m
    rcases two m with z | z <;> subst z
    · exact ⟨_, he, fun v q => nomatch q⟩
    · exact iterH_obj g
  · rintro i h h' ⟨⟨old, he⟩, g⟩ k
    exact ⟨⟨old, k e (by simp) _ he⟩, iterH_at g fun o => k it (by simp) o⟩
  · intro X eP ew eK calm i pins s σ H E I fp ⟨⟨old, he⟩, g⟩ ⟨xs, x, qa, hx⟩
    subst eP ew eK
    obtain ⟨its, r1, q1, _⟩ := seqO I qa
    obtain ⟨ux, eux, rux⟩ := r1.get hx
    have lx := (List.getElem?_eq_some_iff.mp eux).1
    have hel : e < s.heap.objs.size := Heap.lt_size he
    have hh : X.A.in1.handled = none := I.ok.hd calm
    refine wpAny_pyNext_enum_itemD (draws_of t hh it a na its.toArray) he ⟨g, q1⟩ (by simpa using lx) hne nef fun u1 h' tk e1 ho ⟨g', _⟩ hn hsz hk => ?_
    have e1' : u1 = ux := by
      have z := e1
      rw [List.getElem?_toArray, eux] at z
      exact (Option.some.inj z).symm
    subst e1'
    refine ⟨_, rfl, wpAny_letOwnedTupleGo_enum (s := { s with heap := h', toks := tk + 1 }) ho fun h3 he3 sb => ?_⟩
    have hn3 : h3.get? s.heap.objs.size = some { cls := .type "tuple", data := .seq #[.int i tk, u1] } := (sb.2 _ (Nat.ne_of_gt hel)).trans hn
    have nobj : ObjOk X.prog X.w (upd H s.heap.objs.size (.tup [.int (i : Nat), x])) h3 s.heap.objs.size (.tup [.int (i : Nat), x]) := ⟨by show 2 ≤ sizeLine; decide, [.int i tk, u1], .cons ⟨_, rfl⟩ (.cons rux .nil), ⟨_, hn3, rfl, _, rfl⟩⟩
    have back : ∀ c o, c ∉ [e, it] → s.heap.get? c = some o → h3.get? c = some o := fun c o m z => by
      have m1 : c ≠ e := fun q => m (by rw [q]; simp)
      exact (sb.2 c m1).trans (hk c o m1 (fun q => m (by rw [q]; simp)) z)
    have J : L2.Inv X pins σ (upd H s.heap.objs.size (.tup [.int (i : Nat), x])) { s with heap := h3, toks := tk + 1 } := I.turnedNew (t' := tk + 1) (ch := [e, it]) back fp (Nat.le_refl _) nobj
    refine ⟨.ref s.heap.objs.size, _, J, rfl, ⟨_, x, rfl, I.hok.fresh (Nat.le_refl _), rfl, fun l hl => by rw [seqO_inj I hl qa]; exact hx⟩, ⟨⟨u1, ?_⟩, iterH_at g' fun o z => (sb.2 _ hne.symm).trans z⟩, fun c m => ?_⟩
    · rw [show ((i + 1 : Nat) : Int) = (i : Int) + 1 by omega]
      exact he3
    · have hc : c < s.heap.objs.size := by
        rcases two m with z | z <;> subst z
        · exact hel
        · obtain ⟨o, z, _⟩ := iterH_obj g
          exact Heap.lt_size z
      rw [upd_ne (Nat.ne_of_lt hc)]
      exact (fp c m).1
  · intro X eP ew eK calm i pins s σ H E I fp ⟨⟨old, he⟩, g⟩ ⟨xs, qa, hend⟩
    subst eP ew eK
    obtain ⟨its, r1, q1, _⟩ := seqO I qa
    have l1 := r1.length
    have hh : X.A.in1.handled = none := I.ok.hd calm
    have ei : i = its.toArray.size := by rw [List.size_toArray]; omega
    obtain ⟨f0, f1, f2, f3, f4, f5⟩ := fp it (by simp)
    refine wpAny_pyNext_enum_endD (n := its.toArray.size) (draws_of t hh it a na its.toArray) he ⟨by rw [← ei]; exact g, q1⟩ fun h' eb => ⟨rfl, I.turned (t' := s.toks) (fun c o m z => eb c o m z) f0 f1 f3 f4 f5⟩
def iEnumO (t : Bool) (K : PySem.W.Frag) (ta : TA) : TI := fun σ H R => ta σ H fun vs H1 => ∃ a xs, vs = [.ref a] ∧ SqO t K H1 a xs ∧ R (IteO t K a) H1
theorem pi_enumO {X : Cx} {e : Expr} {ta : TA} {p pos tpos : Pos} {elts : List Expr} {kk : Nat} (t : Bool) (hg : Gl X "enumerate") (hm : X.mg "enumerate" = none) (ha : PA X [e] ta) (hs : starEach [e] X.env = [(false, eval e X.env)] := by rfl) :
    PI X (.Tuple elts kk tpos) (.Call (.Name "enumerate" p) [e] [] pos) (iEnumO t X.K ta) := by
  refine ⟨fun pins s σ H R I h => Call_ (ld_blt I hg hm boot_enumerate (PyProof.Rows.callWith_type1 (thn (ha.run pos pins s σ H _ I h) fun us s1 ⟨vs, H1, I1, r1, a, xs, ev, qa, q⟩ => ?_) hs rfl))⟩
  subst ev
  cases r1 with
  | cons r rr =>
    cases rr
    cases r
    obtain ⟨its, _, q1, la⟩ := seqO I1 qa
    obtain ⟨o1, B1, n1⟩ := begins_of t a its.toArray
    refine call_enumO B1 q1 fun h' he g1 hk => wpAny_pyIter_enum he ?_
    have J : L2.Inv X pins σ H1 { s1 with heap := h' } := I1.kept (t' := s1.toks) hk
    refine ⟨_, [s1.heap.objs.size + 1, s1.heap.objs.size], _, _, H1, rfl, J, turnE t (Nat.succ_ne_self _) (Nat.ne_of_lt la) (Nat.ne_of_gt (Nat.lt_succ_of_lt la)), ⟨⟨.none, he⟩, n1 _ _ g1⟩, fun c m => ?_, q⟩
    have hle : s1.heap.objs.size ≤ c := by
      simp only [List.mem_cons, List.not_mem_nil, or_false] at m
      rcases m with z | z <;> rw [z]
      · exact Nat.le_add_right _ _
      · exact Nat.le_refl _
    exact I1.fpOk hle (I1.hok.fresh hle)

/-! #### as walks over data -/
section
variable {K : PySem.W.Frag} {σ : L2.St} {B H : Hp} {S : List Addr} {tA : TA} {ds es : List PyData}
theorem dq_seqO {t : Bool} {v : V} (h : Dq K B v (seqD t ds)) : ∃ a xs, v = .ref a ∧ DqAll K B xs ds ∧ ∀ H', Ex B H' → SqO t K H' a xs := by
  cases t with
  | true =>
    cases h with
    | @tup a xs _ hs hd => exact ⟨a, xs, rfl, hd, fun H' e => st_of (e _ _ hs)⟩
  | false =>
    cases h with
    | @lst a xs _ hs hd => exact ⟨a, xs, rfl, hd, fun H' e => ex_l e hs⟩
/-- read at one world: the one reading of it -/
theorem sqO_one {t : Bool} {H' : Hp} {a : Addr} {i : Nat} {x : V} {xs : List V} (f : ∀ ys, SqO t K H' a ys → ys[i]? = some x) (h : SqO t K H' a xs) : xs[i]? = some x := f xs h
theorem wk_zipO {t u : Bool} (h : EvAD K tA σ B [seqD t ds, seqD u es]) : WkD K (iZipO t u K tA) σ B (zipD ds es) := fun S H w R k => h.bind w fun vs B1 H1 e1 eB1 w1 rs => by
  obtain ⟨v1, v2, rfl, h1, h2⟩ := two_args rs
  obtain ⟨a, xs, rfl, hx, sx⟩ := dq_seqO h1
  obtain ⟨b, ys, rfl, hy, sy⟩ := dq_seqO h2
  have lx := DqAll.length hx
  have ly := DqAll.length hy
  have lz : (zipD ds es).length = min ds.length es.length := by
    unfold zipD
    rw [List.length_map, List.length_zip]
  refine ⟨a, b, xs, ys, rfl, sx _ w1.ex, sy _ w1.ex, k _ B1 H1 e1 eB1 w1 (fun i H' e hi => ?_) (fun i H' e hi => ⟨xs, ys, sx _ e, sy _ e, by omega⟩) fun i S' B' H' x H'' eB w' hi y => ?_⟩
  · exact ⟨xs, ys, _, _, sx _ e, sy _ e, List.getElem?_eq_getElem (show i < xs.length by omega), List.getElem?_eq_getElem (show i < ys.length by omega)⟩
  · obtain ⟨T, x1, y1, rfl, hT, rfl, f1, f2⟩ := y
    have g1 := f1 _ (sx _ (eB.trans w'.ex))
    have g2 := f2 _ (sy _ (eB.trans w'.ex))
    obtain ⟨d1, p1, q1⟩ := DqAll.get hx g1
    obtain ⟨d2, p2, q2⟩ := DqAll.get hy g2
    have eN := w'.newE (o := .tup [x1, y1]) hT
    refine ⟨upd B' T (.tup [x1, y1]), Ex.new hT, eN, w'.new hT, .tuple [d1, d2], ?_, .tup upd_same (.cons (Dq.mono (eB.trans eN) q1) (.cons (Dq.mono (eB.trans eN) q2) .nil))⟩
    unfold zipD
    rw [List.getElem?_map, List.getElem?_zip_eq_some (z := (d1, d2)) |>.mpr ⟨p1, p2⟩]
    rfl
def enumD (ds : List PyData) : List PyData := (ds.zipIdx).map fun p => .tuple [.int p.2, p.1]
theorem wk_enumO {t : Bool} (h : EvAD K tA σ B [seqD t ds]) : WkD K (iEnumO t K tA) σ B (enumD ds) := fun S H w R k => h.bind w fun vs B1 H1 e1 eB1 w1 rs => by
  cases rs with
  | cons h1 r =>
  cases r
  obtain ⟨a, xs, rfl, hx, sx⟩ := dq_seqO h1
  have lx := DqAll.length hx
  have lz : (enumD ds).length = ds.length := by
    unfold enumD
    rw [List.length_map, List.length_zipIdx]
  refine ⟨a, xs, rfl, sx _ w1.ex, k _ B1 H1 e1 eB1 w1 (fun i H' e hi => ?_) (fun i H' e hi => ⟨xs, sx _ e, by omega⟩) fun i S' B' H' x H'' eB w' hi y => ?_⟩
  · exact ⟨xs, _, sx _ e, List.getElem?_eq_getElem (show i < xs.length by omega)⟩
  · obtain ⟨T, x1, rfl, hT, rfl, f1⟩ := y
    have g1 := f1 _ (sx _ (eB.trans w'.ex))
    obtain ⟨d1, p1, q1⟩ := DqAll.get hx g1
    have eN := w'.newE (o := .tup [.int (i : Nat), x1]) hT
    refine ⟨upd B' T (.tup [.int (i : Nat), x1]), Ex.new hT, eN, w'.new hT, .tuple [.int (i : Nat), d1], ?_, .tup upd_same (.cons (.int _) (.cons (Dq.mono (eB.trans eN) q1) .nil))⟩
    unfold enumD
    rw [List.getElem?_map, List.getElem?_zipIdx, p1]
    simp
end
end Pw

/-! ## PwPos -/
namespace Pw
open PySem L2 Evl

/-- lists and tuples walked within a comprehension -/
theorem pi_listK {X : Cx} {tg iter : Expr} {te : TE} (K : PySem.W.Frag) (hK : X.K = K) (h : PE X iter te) : PI X tg iter (iList K te) := hK ▸ pi_list h
theorem pi_tupK {X : Cx} {tg iter : Expr} {te : TE} (K : PySem.W.Frag) (hK : X.K = K) (h : PE X iter te) : PI X tg iter (iTup K te) := hK ▸ pi_tup h

/-! ### dicts of ints to ints, sorted ints, walks over lists or tuples -/
def DMap (m : List (Int × Int)) (v : V) (B : Hp) : Prop := ∃ a kvs, v = .ref a ∧ B a = some (.dK kvs) ∧ ∀ p ∈ m, valV kvs (.inl p.1) = some (.int p.2)
theorem stays_dmap {m : List (Int × Int)} : Stays (DMap m) := fun v B B' e ⟨a, kvs, h1, h2, h3⟩ => ⟨a, kvs, h1, e _ _ h2, h3⟩
theorem merge_at : ∀ (l acc : List (Key × V)) (k : Key) (v : V), (l.map (·.1)).Nodup → (k, v) ∈ l → valV (mergeK acc l) k = some v
  | [], _, _, _, _, h => by cases h
  | q :: r, acc, k, v, hn, h => by
    rw [List.map_cons, List.nodup_cons] at hn
    show valV (mergeK (putK acc q.1 q.2) r) k = some v
    rcases List.mem_cons.mp h with h | h
    · subst h
      have keep : ∀ (l acc : List (Key × V)), ¬ k ∈ l.map (·.1) → valV acc k = some v → valV (mergeK acc l) k = some v := by
        intro l
        induction l with
        | nil => exact fun acc _ h => h
        | cons y r ih =>
          intro acc hm h
          rw [List.map_cons, List.mem_cons, not_or] at hm
          refine ih (putK acc y.1 y.2) hm.2 ?_
          rw [valV_put, if_neg hm.1]
          exact h
      exact keep r _ hn.1 (by rw [valV_put, if_pos rfl])
    · exact merge_at r _ k v hn.2 h
section
variable {K : PySem.W.Frag} {σ : L2.St} {B H : Hp} {S : List Addr} {ta tb td ty te : TE} {tA : TA} {ds es : List PyData}
theorem pairs_dm : ∀ {m : List (Int × Int)} {xs : List V}, DqAll K B xs (m.map fun p => .tuple [.int p.1, .int p.2]) →
    ∃ (ps : List Addr), xs = ps.map V.ref ∧ Paired (fun p (kv : Key × V) => SqT K B p [kV kv.1, kv.2]) ps (m.map fun p => (Sum.inl p.1, V.int p.2))
  | [], _, h => by cases h; exact ⟨[], rfl, .nil⟩
  | k :: m, _, h => by
    cases h with
    | cons h1 h2 =>
    obtain ⟨ps, rfl, h3⟩ := pairs_dm h2
    cases h1 with
    | @tup a ys _ hs hd =>
    have e := DqAll.ints_eq (ns := [k.1, k.2]) hd
    subst e
    exact ⟨a :: ps, rfl, .cons (st_of hs) h3⟩
theorem ev_dmap {m : List (Int × Int)} (hn : (m.map (·.1)).Nodup) (h : EvD K ta σ B (.list (m.map fun p => .tuple [.int p.1, .int p.2]))) : EvR (tCB (rDictP K) (tCons ta tNil)) σ B (DMap m) :=
  evR_of (fun S H w Q q => (ea_cons h ea_nil).bind w fun vs B1 H1 e1 eB1 w1 rs => by
    cases rs with
    | cons r1 r2 =>
    cases r2
    cases r1 with
    | @lst a xs _ hs hd =>
    obtain ⟨ps, rfl, hp⟩ := pairs_dm hd
    refine ⟨a, ps, _, rfl, ex_l w1.ex hs, paired_mono w1.ex hp, fun p hp => q (.ref p) _ _ (e1.trans (Ex.new hp)) (eB1.trans (w1.newE hp)) (w1.new hp) ⟨p, _, rfl, upd_same, fun k hk => ?_⟩⟩
    refine merge_at _ _ _ _ ?_ (List.mem_map.mpr ⟨k, hk, rfl⟩)
    rw [List.map_map]
    exact List.pairwise_map.mpr ((List.pairwise_map.mp hn).imp fun {a b} h e => h (Sum.inl.inj e))) stays_dmap
theorem ev_dgetI {m : List (Int × Int)} {p : Int × Int} (hd : EvR td σ B (DMap m)) (hk : EvD K ty σ B (.int p.1)) (hp : p ∈ m) : EvD K (tDGet td ty) σ B (.int p.2) :=
  evR_of (fun S H w Q q => hd.bind w fun x B1 H1 e1 eB1 w1 ⟨a, kvs, ex, ha, hv⟩ => (hk.mono eB1).bind w1 fun y B2 H2 e2 eB2 w2 ry => by
    cases ry
    subst ex
    refine ⟨a, _, rfl, ?_, q (.int p.2) B2 H2 (e1.trans e2) (eB1.trans eB2) w2 (.int _)⟩
    have g := DGet.k (H := H2) (a := a) (kvs := kvs) (k := .inl p.1) (w2.ex _ _ (eB2 _ _ ha))
    rw [hv p hp] at g
    exact g) stays_dp
/-- sorted(ints) -/
def srt (ns : List Int) : List Int := ns.mergeSort fun a b => decide (a ≤ b)
theorem srt_perm (ns : List Int) : (srt ns).Perm ns := List.mergeSort_perm _ _
theorem srt_len (ns : List Int) : (srt ns).length = ns.length := (srt_perm ns).length_eq
theorem srt_le (ns : List Int) : (srt ns).Pairwise (· ≤ ·) := by
  refine (List.pairwise_mergeSort (le := fun (a b : Int) => decide (a ≤ b)) (fun a b c h1 h2 => ?_) (fun a b => ?_) ns).imp fun {a b} h => of_decide_eq_true h
  · have h1 := of_decide_eq_true h1
    have h2 := of_decide_eq_true h2
    exact decide_eq_true (by omega)
  · rw [Bool.or_eq_true]
    rcases Int.le_total a b with h | h
    · exact .inl (decide_eq_true h)
    · exact .inr (decide_eq_true h)
theorem srt_eq {ns ys : List Int} (h : ys.Perm ns) (s : ys.Pairwise (· ≤ ·)) : ys = srt ns := List.Perm.eq_of_pairwise (fun a b _ _ h1 h2 => Int.le_antisymm h1 h2) s (srt_le ns) (h.trans (srt_perm ns).symm)
theorem ev_srt {ns : List Int} (h : EvD K te σ B (.list (ns.map .int))) : EvD K (tCB (rSortedI K) (tCons te tNil)) σ B (.list ((srt ns).map .int)) :=
  evR_of (fun S H w Q q => h.bind w fun x B1 H1 e1 eB1 w1 rx => by
    cases rx with
    | @lst a xs _ hs hd =>
    have e := DqAll.ints_eq hd
    subst e
    refine ⟨a, ns, rfl, ex_l w1.ex hs, fun ys p hp hs2 hn => ?_⟩
    rw [srt_eq hp hs2]
    exact q (.ref p) _ _ (e1.trans (Ex.new hn)) (eB1.trans (w1.newE (o := .lst ((srt ns).map V.int)) hn)) (w1.new hn) (.lst (sq_of upd_same) DqAll.ints)) stays_dp
theorem wk_enumS {t : Bool} (h : EvAD K tA σ B [seqD t ds]) : WkD K (fun σ H R => iEnumO false K tA σ H R ∨ iEnumO true K tA σ H R) σ B (enumD ds) := by
  cases t with
  | true => exact fun S H w R k => .inr (wk_enumO (t := true) h S H w R k)
  | false => exact fun S H w R k => .inl (wk_enumO (t := false) h S H w R k)
theorem wk_zipS {u : Bool} (h : EvAD K tA σ B [.list ds, seqD u es]) : WkD K (fun σ H R => iZipO false false K tA σ H R ∨ iZipO false true K tA σ H R) σ B (zipD ds es) := by
  cases u with
  | true => exact fun S H w R k => .inr (wk_zipO (t := false) (u := true) h S H w R k)
  | false => exact fun S H w R k => .inl (wk_zipO (t := false) (u := false) h S H w R k)
theorem wk_slS {t : Bool} {tl th : TO} {lo hi : Option Int} (h : EvD K te σ B (seqD t ds)) (hl : EvP tl σ B lo) (hh : EvP th σ B hi) : WkD K (fun σ H R => iList K (tSl (rSlL K) te tl th) σ H R ∨ iTup K (tSl (rSlA K) te tl th) σ H R) σ B (cutA ds lo hi) := by
  cases t with
  | true => exact fun S H w R k => .inr (wk_tup (ev_slA (show EvD K te σ B (.tuple ds) from h) hl hh) S H w R k)
  | false => exact fun S H w R k => .inl (wk_list (ev_slL (show EvD K te σ B (.list ds) from h) hl hh) S H w R k)
end
theorem cutA_take {α : Type} (xs : List α) (k : Nat) : cutA xs none (some ((k : Nat) : Int)) = xs.take k := by
  unfold cutA
  show (xs.drop 0).take (HT.sIx xs.length xs.length (some (k : Int)) - 0) = _
  rw [HT.sIx_nat, List.drop_zero, Nat.sub_zero]
  by_cases h : k ≤ xs.length
  · rw [Nat.min_eq_left h]
  · rw [Nat.min_eq_right (by omega), List.take_of_length_le (Nat.le_refl _), List.take_of_length_le (by omega)]
theorem cutA_drop {α : Type} (xs : List α) (k : Nat) : cutA xs (some ((k : Nat) : Int)) none = xs.drop k := by
  unfold cutA
  show (xs.drop (HT.sIx xs.length 0 (some (k : Int)))).take (xs.length - HT.sIx xs.length 0 (some (k : Int))) = _
  rw [HT.sIx_nat]
  by_cases h : k ≤ xs.length
  · rw [Nat.min_eq_left h]
    exact List.take_of_length_le (by rw [List.length_drop]; exact Nat.le_refl _)
  · rw [Nat.min_eq_right (by omega), List.drop_of_length_le (Nat.le_refl _), List.drop_of_length_le (by omega)]
    simp

/-! ### places open behind each turn of an order -/
def posIn (order : List Int) (p : Int) : Nat := order.idxOf p
def openL (ts : List Tie) (order : List Int) (i : Nat) : List Int := (order.take (i + 1)).filter fun p => (nb ts p).any fun q => decide ((posIn order q : Int) > (i : Int))
def openS (ts : List Tie) (order : List Int) : List (List Int) := (List.range order.length).map fun i => srt (openL ts order i)
def widths (ts : List Tie) (order : List Int) : List Int := (List.range order.length).map fun i => ((openL ts order i).length : Int)
/-- the places, each once -/
structure Order (n : Int) (order : List Int) : Prop where
  perm : order.Perm (rngI 0 n.toNat)
theorem Order.nd {n : Int} {order : List Int} (o : Order n order) : order.Nodup := o.perm.nodup_iff.mpr (rngI_nd _ _)
theorem Order.mem {n : Int} {order : List Int} (o : Order n order) {p : Int} : p ∈ order ↔ 0 ≤ p ∧ p < n := by
  rw [o.perm.mem_iff, rngI_mem]
  omega
theorem Order.len {n : Int} {order : List Int} (o : Order n order) : order.length = n.toNat := by rw [o.perm.length_eq, rngI_len]
theorem openL_len {n : Int} {ts : List Tie} {order : List Int} (o : Order n order) (i : Nat) : (openL ts order i).length ≤ n.toNat := by
  refine Nat.le_trans (List.length_filter_le _ _) ?_
  rw [List.length_take, o.len]
  exact Nat.min_le_right _ _
theorem posIn_at {order : List Int} (hn : order.Nodup) {i : Nat} {p : Int} (h : order[i]? = some p) : posIn order p = i := by
  obtain ⟨hi, e⟩ := List.getElem?_eq_some_iff.mp h
  unfold posIn
  rw [← e]
  exact List.Nodup.idxOf_getElem hn i hi
theorem posIn_get {order : List Int} {p : Int} (h : p ∈ order) : order[posIn order p]? = some p := by
  unfold posIn
  have hl := List.idxOf_lt_length_of_mem h
  rw [List.getElem?_eq_getElem hl]
  exact congrArg some (List.getElem_idxOf hl)
def posM (order : List Int) : List (Int × Int) := order.zipIdx.map fun p => (p.1, (p.2 : Int))
theorem posM_keys (order : List Int) : (posM order).map (·.1) = order := by
  unfold posM
  rw [List.map_map]
  exact List.zipIdx_map_fst 0 order
theorem posM_mem {order : List Int} {p : Int} (h : p ∈ order) : (p, (posIn order p : Int)) ∈ posM order := by
  refine List.mem_map.mpr ⟨(p, posIn order p), ?_, rfl⟩
  exact List.mk_mem_zipIdx_iff_getElem?.mpr (posIn_get h)
end Pw

/-! ## PwFlat -/
namespace Pw
open PySem PySem.Spec PyProof.Rows L2 Evl

/-! ### x in a tuple of data; "if c: xs.append(e)" -/
def rInDT (K : PySem.W.Frag) : R2 := fun x y H Q => ∃ d ds, Dp K H x d ∧ Dp K H y (.tuple ds) ∧ SeqAt.shaped d = true ∧ SeqAt.shaped (.tuple ds) = true ∧ Q (.bl (ds.any fun z => PyData.eqv z d)) H
theorem op_inDT {X : Cx} (hu : X.A.units + 65 < cLine) : OpR X (compareOp .In) (rInDT X.K) := by
  intro pins s σ H x y v u Q I rx ry h
  obtain ⟨d, ds, hd, he, sd, se, q⟩ := h
  obtain ⟨as, r1⟩ := Dp.reads I d x v hd rx
  obtain ⟨bs, r2⟩ := Dp.reads I (.tuple ds) y u he ry
  exact SeqAt.in_tuple_reads r2 r1 (SeqAt.canLay_of_shaped se) (SeqAt.canLay_of_shaped sd) (room_in_shaped sd hu) ⟨.bl _, H, I, rfl, q⟩
section
variable {K : PySem.W.Frag} {σ : L2.St} {B H : Hp} {S : List Addr} {te ta tb : TE} {tt : TT} {d : PyData} {ds : List PyData} {D : Ends}
theorem ev_inDT (ha : EvD K ta σ B d) (hb : EvD K tb σ B (.tuple ds)) (s1 : SeqAt.shaped d = true) (s2 : SeqAt.shaped (.tuple ds) = true) : EvD K (tOp (rInDT K) ta tb) σ B (.bool (ds.any fun z => PyData.eqv z d)) :=
  ev_op ha hb (fun x y B' H' Q hx hy e q => ⟨d, ds, Dq.dp (Dq.mono e hx), Dq.dp (Dq.mono e hy), s1, s2, q _ (.bl _)⟩) stays_dp
theorem st_ifApp {i : Nat} {a : Addr} {ys : List V} {c : Bool} {H0 : Hp} (w : Wd S B H) (hi : σ[i]? = some (some (.ref a))) (hA : H a = some (.lst ys)) (h0 : H0 a = none) (e0 : Ex H0 H) (hm : a ∈ S) (hl : ys.length ≤ 40000) (hc : EvB tt σ B c) (he : c = true → EvD K te σ B d)
    (k : ∀ B' H' vs, Ex H0 H' → Ex B B' → Wd S B' H' → H' a = some (.lst (ys ++ vs)) → DqAll K B' vs (if c = true then [d] else []) → D.nx σ H') : tIfS tt (tDrop (tBM K "list" rAppend (tVar i) (tCons te tNil))) tNext D σ H := by
  refine st_if w hc (fun z B1 H1 e1 eB1 w1 => ?_) (fun z B1 H1 e1 eB1 w1 => ?_)
  · refine st_app w1 hi (e1 _ _ hA) hm hl ((he z).mono eB1) fun v B2 H2 e2 eB2 w2 r => ?_
    refine k B2 _ [v] ((e0.trans (e1.trans e2)).mut h0) (eB1.trans eB2) w2 upd_same ?_
    rw [if_pos z]
    exact .cons r .nil
  · refine st_next (k B1 H1 [] (e0.trans e1) eB1 w1 (by rw [List.append_nil]; exact e1 _ _ hA) ?_)
    rw [if_neg (by rw [z]; decide)]
    exact .nil
end

/-! ### flat webs -/
def cst (p : Nat × Nat) : Int × Int := ((p.1 : Int), (p.2 : Int))
def rowF (w h p : Nat) : List (Nat × Nat) := (if decide ((p + 1) % w > 0) = true then [(p, p + 1)] else []) ++ (if decide (p + w < w * h) = true then [(p, p + w)] else [])
def pairsFN (w h : Nat) : List (Nat × Nat) := (List.range (w * h)).flatMap (rowF w h)
/-- neighbours, as the law looks -/
def nearL (w a b : Nat) : Bool := decide ((((b % w : Nat) : Int) - ((a % w : Nat) : Int), ((b / w : Nat) : Int) - ((a / w : Nat) : Int)) ∈ [((1 : Int), (0 : Int)), (0, 1)])
def rowL (w m a : Nat) : List (Nat × Nat) := (List.range (m - (a + 1))).flatMap fun i => if nearL w a (a + 1 + i) = true then [(a, a + 1 + i)] else []
def pairsLN (w h : Nat) : List (Nat × Nat) := (List.range (w * h)).flatMap (rowL w (w * h))
def pairsF (w h : Nat) : List (Int × Int) := (pairsFN w h).map cst
def turnP (w h : Nat) (p : Nat × Nat) : Nat × Nat := if p.1 / w + h * (p.1 % w) ≤ p.2 / w + h * (p.2 % w) then (p.1 / w + h * (p.1 % w), p.2 / w + h * (p.2 % w)) else (p.2 / w + h * (p.2 % w), p.1 / w + h * (p.1 % w))
structure FlatFacts (w h : Nat) : Prop where
  same : pairsLN w h = pairsFN w h
  turn : ((pairsFN w h).map (turnP w h)).Perm (pairsFN h w)
  ord : (pairsFN w h).Pairwise fun a b => a.1 < b.1 ∨ a.1 = b.1 ∧ a.2 < b.2
  ends : ∀ p ∈ pairsFN w h, p.1 < p.2 ∧ p.2 < w * h ∧ p.2 ≤ p.1 + w
  few : (pairsFN w h).length ≤ 100
instance (w h : Nat) : Decidable (FlatFacts w h) := decidable_of_iff (pairsLN w h = pairsFN w h ∧ ((pairsFN w h).map (turnP w h)).Perm (pairsFN h w) ∧ ((pairsFN w h).Pairwise fun a b => a.1 < b.1 ∨ a.1 = b.1 ∧ a.2 < b.2) ∧ (∀ p ∈ pairsFN w h, p.1 < p.2 ∧ p.2 < w * h ∧ p.2 ≤ p.1 + w) ∧ (pairsFN w h).length ≤ 100)
  ⟨fun ⟨a, b, c, d, e⟩ => ⟨a, b, c, d, e⟩, fun h => ⟨h.1, h.2, h.3, h.4, h.5⟩⟩
theorem flat_all : ∀ w ∈ List.range 7, ∀ h ∈ List.range 7, 0 < w → 0 < h → FlatFacts w h := by decide +kernel
theorem flat_facts {w h : Nat} (hw : 1 ≤ w ∧ w ≤ 6) (hh : 1 ≤ h ∧ h ≤ 6) : FlatFacts w h := flat_all w (List.mem_range.mpr (by omega)) h (List.mem_range.mpr (by omega)) (by omega) (by omega)
/-- pairs with weights -/
def zipT (ps : List (Int × Int)) (ws : List Int) : List Tie := (ps.zip ws).map fun x => (x.1.1, x.1.2, x.2)
def prT (t : Tie) : Int × Int := (t.1, t.2.1)
theorem zipT_pr {ps : List (Int × Int)} {ws : List Int} (h : ps.length ≤ ws.length) : (zipT ps ws).map prT = ps := by
  unfold zipT
  rw [List.map_map]
  exact List.map_fst_zip h
theorem zipT_wt {ps : List (Int × Int)} {ws : List Int} (h : ws.length ≤ ps.length) : (zipT ps ws).map (fun t => t.2.2) = ws := by
  unfold zipT
  rw [List.map_map]
  exact List.map_snd_zip h
theorem zipT_len {ps : List (Int × Int)} {ws : List Int} : (zipT ps ws).length = min ps.length ws.length := by
  unfold zipT
  rw [List.length_map, List.length_zip]
theorem zipT_self : ∀ (ts : List Tie), zipT (ts.map prT) (ts.map fun t => t.2.2) = ts
  | [] => rfl
  | t :: ts => by
    have ih := zipT_self ts
    unfold zipT at ih ⊢
    rw [List.map_cons, List.map_cons, List.zip_cons_cons, List.map_cons, ih]
    rfl
theorem zipT_mem {ps : List (Int × Int)} {ws : List Int} {t : Tie} (h : t ∈ zipT ps ws) : prT t ∈ ps ∧ t.2.2 ∈ ws := by
  unfold zipT at h
  obtain ⟨x, hx, rfl⟩ := List.mem_map.mp h
  exact ⟨(List.of_mem_zip hx).1, (List.of_mem_zip hx).2⟩
theorem pairsF_mem {w h : Nat} (F : FlatFacts w h) {p : Int × Int} (hp : p ∈ pairsF w h) : 0 ≤ p.1 ∧ p.1 < p.2 ∧ p.2 < ((w * h : Nat) : Int) ∧ p.2 ≤ p.1 + (w : Int) := by
  obtain ⟨q, hq, rfl⟩ := List.mem_map.mp hp
  have := F.ends q hq
  show 0 ≤ (q.1 : Int) ∧ (q.1 : Int) < (q.2 : Int) ∧ (q.2 : Int) < ((w * h : Nat) : Int) ∧ (q.2 : Int) ≤ (q.1 : Int) + (w : Int)
  omega
theorem pairsF_ord {w h : Nat} (F : FlatFacts w h) : (pairsF w h).Pairwise fun a b => a.1 < b.1 ∨ a.1 = b.1 ∧ a.2 < b.2 := by
  unfold pairsF
  rw [List.pairwise_map]
  refine F.ord.imp fun {a b} h => ?_
  show (a.1 : Int) < (b.1 : Int) ∨ (a.1 : Int) = (b.1 : Int) ∧ (a.2 : Int) < (b.2 : Int)
  omega
theorem flat_web {w h : Nat} {ws : List Int} (F : FlatFacts w h) (h1 : 1 ≤ w ∧ 1 ≤ h) (hl : ws.length = (pairsF w h).length) (hw : ∀ x ∈ ws, 1 ≤ x) : WebOk ((w * h : Nat) : Int) (zipT (pairsF w h) ws) := by
  refine ⟨?_, fun t ht => ?_, ?_, ?_⟩
  · have := Nat.mul_pos h1.1 h1.2
    omega
  · obtain ⟨g1, g2⟩ := zipT_mem ht
    have h3 : 0 ≤ t.1 ∧ t.1 < t.2.1 ∧ t.2.1 < ((w * h : Nat) : Int) ∧ t.2.1 ≤ t.1 + (w : Int) := pairsF_mem F g1
    have h4 := hw _ g2
    omega
  · have p := pairsF_ord F
    rw [← zipT_pr (ps := pairsF w h) (ws := ws) (by omega), List.pairwise_map] at p
    exact p
  · rw [zipT_len]
    have := F.few
    have e : (pairsF w h).length = (pairsFN w h).length := List.length_map _
    omega
/-! #### turned -/
def turnT (w h : Nat) (t : Tie) : Tie :=
  if t.1 / (w : Int) + (h : Int) * (t.1 % (w : Int)) ≤ t.2.1 / (w : Int) + (h : Int) * (t.2.1 % (w : Int)) then (t.1 / (w : Int) + (h : Int) * (t.1 % (w : Int)), t.2.1 / (w : Int) + (h : Int) * (t.2.1 % (w : Int)), t.2.2)
  else (t.2.1 / (w : Int) + (h : Int) * (t.2.1 % (w : Int)), t.1 / (w : Int) + (h : Int) * (t.1 % (w : Int)), t.2.2)
theorem place_cast (w h a : Nat) : (a : Int) / (w : Int) + (h : Int) * ((a : Int) % (w : Int)) = ((a / w + h * (a % w) : Nat) : Int) := by
  rw [← Int.natCast_ediv, ← Int.natCast_emod, ← Int.natCast_mul, ← Int.natCast_add]
theorem turn_pr {w h : Nat} {t : Tie} {p : Nat × Nat} (e : prT t = cst p) : prT (turnT w h t) = cst (turnP w h p) := by
  obtain ⟨a, b, x⟩ := t
  unfold prT cst at e
  simp only [Prod.mk.injEq] at e
  obtain ⟨rfl, rfl⟩ := e
  unfold turnT turnP
  simp only [place_cast]
  by_cases c : p.1 / w + h * (p.1 % w) ≤ p.2 / w + h * (p.2 % w)
  · rw [if_pos c, if_pos (by omega)]
    rfl
  · rw [if_neg c, if_neg (by omega)]
    rfl
theorem turned_eq {w h : Nat} {ws : List Int} {us : List Tie} (F : FlatFacts w h) (G : FlatFacts h w) (hl : ws.length = (pairsF w h).length) (hs : SortsTo (((zipT (pairsF w h) ws).map (turnT w h)).map tieL) (us.map tieL)) :
    us = zipT (pairsF h w) (us.map fun t => t.2.2) ∧ us.length = (pairsF h w).length ∧ ∀ x ∈ us.map (fun t => t.2.2), x ∈ ws := by
  have inj : us.Perm ((zipT (pairsF w h) ws).map (turnT w h)) := by
    have g : ∀ l : List Tie, (l.map tieL).map (fun l => (l.getD 0 0, l.getD 1 0, l.getD 2 0)) = l := fun l => by
      rw [List.map_map]
      exact (List.map_congr_left fun t _ => rfl).trans (List.map_id l)
    have p := hs.1.map fun l => (l.getD 0 0, l.getD 1 0, l.getD 2 0)
    rw [g, g] at p
    exact p
  have e1 : ((zipT (pairsF w h) ws).map (turnT w h)).map prT = ((pairsFN w h).map (turnP w h)).map cst := by
    have e2 : (zipT (pairsF w h) ws).map prT = (pairsFN w h).map cst := zipT_pr (by omega)
    have : ∀ (ts : List Tie) (ps : List (Nat × Nat)), ts.map prT = ps.map cst → (ts.map (turnT w h)).map prT = (ps.map (turnP w h)).map cst := by
      intro ts
      induction ts with
      | nil =>
        intro ps e
        cases ps with
        | nil => rfl
        | cons p r => cases e
      | cons t ts ih =>
        intro ps e
        cases ps with
        | nil => cases e
        | cons p r =>
          rw [List.map_cons, List.map_cons, List.cons.injEq] at e
          rw [List.map_cons, List.map_cons, List.map_cons, List.map_cons, ih r e.2, turn_pr e.1]
    exact this _ _ e2
  have p1 : (us.map prT).Perm (pairsF h w) := by
    refine (inj.map prT).trans ?_
    rw [e1]
    exact F.turn.map cst
  have s1 : (us.map prT).Pairwise (fun a b => a.1 < b.1 ∨ a.1 = b.1 ∧ a.2 ≤ b.2) := List.pairwise_map.mpr ((List.pairwise_map.mp hs.2).imp fun {s t} h => tie_le h)
  have s2 : (pairsF h w).Pairwise (fun a b => a.1 < b.1 ∨ a.1 = b.1 ∧ a.2 ≤ b.2) := (pairsF_ord G).imp fun {a b} h => by omega
  have e : us.map prT = pairsF h w := List.Perm.eq_of_pairwise (fun a b _ _ h1 h2 => by
    have : a.1 = b.1 ∧ a.2 = b.2 := by omega
    exact Prod.ext this.1 this.2) s1 s2 p1
  refine ⟨?_, ?_, fun x hx => ?_⟩
  · rw [← e]
    exact (zipT_self us).symm
  · rw [← e, List.length_map]
  · obtain ⟨t, ht, rfl⟩ := List.mem_map.mp hx
    obtain ⟨s, hs', rfl⟩ := List.mem_map.mp (inj.mem_iff.mp ht)
    have := (zipT_mem hs').2
    unfold turnT
    split <;> exact this
/-! #### the width of the order by rows -/
theorem rng_idx {n : Nat} {p : Int} (h : p ∈ rngI 0 n) : (posIn (rngI 0 n) p : Int) = p := by
  have hm := rngI_mem.mp h
  have := posIn_at (rngI_nd 0 n) (i := p.toNat) (p := p) (by rw [rngI_get (by omega)]; congr 1; omega)
  omega
theorem flat_open {w h : Nat} {ts : List Tie} (F : FlatFacts w h) (hts : ∀ t ∈ ts, prT t ∈ pairsF w h) {i : Nat} (hi : i < w * h) : (openL ts (rngI 0 (w * h)) i).length ≤ w := by
  have hin : ∀ p ∈ openL ts (rngI 0 (w * h)) i, (i : Int) - (w : Int) < p ∧ p ≤ (i : Int) := fun p hp => by
    unfold openL at hp
    rw [List.mem_filter, List.any_eq_true] at hp
    obtain ⟨hp1, q, hq, hgt⟩ := hp
    have hgt := of_decide_eq_true hgt
    have hpr := List.mem_of_mem_take hp1
    obtain ⟨j, hj⟩ := List.getElem?_of_mem hp1
    have hjl : j < i + 1 := by
      have := (List.getElem?_eq_some_iff.mp hj).1
      rw [List.length_take] at this
      omega
    rw [List.getElem?_take_of_lt hjl, rngI_get (by omega)] at hj
    have hj := Option.some.inj hj
    unfold nb at hq
    obtain ⟨t, ht, c⟩ := List.mem_flatMap.mp hq
    have c : t.1 = p ∧ q = t.2.1 ∨ t.2.1 = p ∧ q = t.1 := by
      split at c
      · rename_i z
        exact .inl ⟨z, List.mem_singleton.mp c⟩
      · split at c
        · rename_i z
          exact .inr ⟨z, List.mem_singleton.mp c⟩
        · cases c
    have hb := pairsF_mem F (hts t ht)
    have hb : 0 ≤ t.1 ∧ t.1 < t.2.1 ∧ t.2.1 < ((w * h : Nat) : Int) ∧ t.2.1 ≤ t.1 + (w : Int) := hb
    have hqr : (posIn (rngI 0 (w * h)) q : Int) = q := rng_idx (rngI_mem.mpr (by omega))
    omega
  have hnd : (openL ts (rngI 0 (w * h)) i).Nodup := ((rngI_nd 0 (w * h)).sublist (List.take_sublist _ _)).sublist (List.filter_sublist)
  have h2 := few_in (n := w) (ks := (openL ts (rngI 0 (w * h)) i).map fun p => p - ((i : Int) - (w : Int) + 1)) (List.pairwise_map.mpr (hnd.imp fun {a b} z e => z (by omega))) fun k hk => by
    obtain ⟨p, hp, rfl⟩ := List.mem_map.mp hk
    have := hin p hp
    omega
  rw [List.length_map] at h2
  exact h2
theorem flat_width {w h : Nat} {ts : List Tie} {m : Int} (F : FlatFacts w h) (hts : ∀ t ∈ ts, prT t ∈ pairsF w h) (hm : m ∈ widths ts (rngI 0 (w * h))) : m ≤ (w : Int) := by
  unfold widths at hm
  obtain ⟨i, hi, rfl⟩ := List.mem_map.mp hm
  rw [List.mem_range, rngI_len] at hi
  have := flat_open F hts hi
  omega
theorem map_if1 {α β : Type} (f : α → β) (c : Bool) (x : α) : (if c = true then [x] else []).map f = if c = true then [f x] else [] := by cases c <;> rfl
theorem flatMap_succ {α : Type} (f : Nat → List α) (i : Nat) : (List.range (i + 1)).flatMap f = (List.range i).flatMap f ++ f i := by
  rw [List.range_succ, List.flatMap_append]
  simp
theorem flatMap_len {α : Type} (f : Nat → List α) (c : Nat) (hc : ∀ i, (f i).length ≤ c) : ∀ i, ((List.range i).flatMap f).length ≤ c * i
  | 0 => Nat.zero_le _
  | i + 1 => by
    have h1 := flatMap_len f c hc i
    have h2 := hc i
    rw [flatMap_succ, List.length_append, Nat.mul_succ]
    omega
abbrev pD (p : Nat × Nat) : PyData := pairD (cst p)
theorem zip_pairs (ps : List (Int × Int)) (ws : List Int) : zipD (ps.map pairD) (ws.map PyData.int) = (ps.zip ws).map fun x => .tuple [pairD x.1, .int x.2] := by
  unfold zipD
  rw [List.zip_map, List.map_map]
  rfl
def fFlat (ds : List PyData) (d : PyData) : Prop := ∃ (w h : Nat) (t : Bool) (ws : List Int), ds = [.int (w : Int), .int (h : Int), seqD t (ws.map PyData.int)] ∧ 1 ≤ w ∧ w ≤ 30 ∧ 1 ≤ h ∧ h ≤ 30 ∧ ws.length ≤ 2000 ∧ d = webD ((w * h : Nat) : Int) (zipT (pairsF w h) ws)
theorem args3 {K : PySem.W.Frag} {B : Hp} {vs : List V} {a b c : PyData} (h : DqAll K B vs [a, b, c]) : ∃ v1 v2 v3, vs = [v1, v2, v3] ∧ Dq K B v1 a ∧ Dq K B v2 b ∧ Dq K B v3 c := by
  cases h with
  | cons h1 t => cases t with
    | cons h2 t => cases t with
      | cons h3 t => cases t; exact ⟨_, _, _, rfl, h1, h2, h3⟩
theorem Order.rng (n : Int) : Order n (rngI 0 n.toNat) := ⟨List.Perm.refl _⟩
end Pw

/-! ## PwCallV -/
namespace Pw
open PySem PySem.Spec PyProof.Rows L2 Evl

/-! ### a call of one of some defs: what stands in a list -/
def tDyn (L : List (Addr × Sp)) (tf : TE) (t : TA) : TE := fun σ H Q => tf σ H fun x H1 => ∃ p ∈ L, x = .ref p.1 ∧ t σ H1 fun vs H2 => p.2 vs H2 Q E0
def GoodC (X : Cx) (p : Addr × Sp) : Prop := ∃ (k : Nat) (fd : FuncData) (ps : List Str), FnOk X.prog X.w X.K X.mg X.base CX0 k p.1 fd ps p.2 ∧ Room k X.A ∧ PySem.W.keepIn X.K (.ref p.1) = true ∧ Binds X.K fd ps []
section
variable {X : Cx} {L : List (Addr × Sp)} {k : Nat} {f : Addr} {fd : FuncData} {ps : List Str} {sp : Sp} {fe e : Expr} {es : List Expr} {tf : TE} {t : TA} {pos : Pos}
theorem gnil : ∀ p ∈ ([] : List (Addr × Sp)), GoodC X p := fun p h => by cases h
theorem gcons (F : FnOk X.prog X.w X.K X.mg X.base CX0 k f fd ps sp) (hr : Room k X.A) (hk : PySem.W.keepIn X.K (.ref f) = true) (hb : Binds X.K fd ps []) (h : ∀ p ∈ L, GoodC X p) : ∀ p ∈ (f, sp) :: L, GoodC X p := fun p hp => by
  rcases List.mem_cons.mp hp with rfl | hp
  · exact ⟨k, fd, ps, F, hr, hk, hb⟩
  · exact h p hp
theorem pe_callV (hL : ∀ p ∈ L, GoodC X p) (hf : PE X fe tf) (ha : PA X (e :: es) t)
    (h1 : eval (.Call fe (e :: es) [] pos) X.env = (do callWith pos (← eval fe X.env) [] (backTo pos (starEach (e :: es) X.env)) (backToKw pos (keywordEach [] X.env))) := by rfl)
    (h2 : starEach (e :: es) X.env = (false, eval e X.env) :: starEach es X.env := by rfl) (h3 : (backTo pos (starEach es X.env)).any (·.1) = false := by rfl) : PE X (.Call fe (e :: es) [] pos) (tDyn L tf t) :=
  ⟨fun pins s σ H Q I h => Call_ (thn (hf.run pins s σ H _ I h) fun u s1 ⟨x, HH, I1, rx, p, hp, ex, q⟩ => by
    subst ex
    obtain ⟨kk, fd', ps', F, hr, hk, hb⟩ := hL p hp
    obtain rfl : u = Value.ref p.1 := rx
    exact PySem.W.callWith_K (h₀ := X.base) I1.ok.mod.kin hk (thn (ha.run pos pins s1 σ HH _ I1 q) fun us s2 ⟨vs, HI, I2, rv, q2⟩ => ⟨I2.kIn, run_fn (dvs := []) F hr hb .nil pass0 I2 rv (by rw [List.append_nil]; exact q2)⟩) h2 h3) h1⟩
end

/-! ### len(set(ints)) -/
def tLenSet (K : PySem.W.Frag) (ta : TE) : TE := fun σ H Q => ta σ H fun x H1 => ∃ (l : Addr) (ns : List Int), x = V.ref l ∧ SqL K H1 l (ns.map V.int) ∧ ns.length ≤ 4000 ∧ ∀ ds : List Int, ds.Nodup → (∀ k, k ∈ ds ↔ k ∈ ns) → Q (.int ds.length) H1
theorem met_nd (val : Nat → Int) : ∀ i, (PyProof.Rows.firstMet val i).Nodup
  | 0 => List.nodup_nil
  | i + 1 => by
    have ih := met_nd val i
    rw [PyProof.Rows.firstMet_succ]
    unfold PyProof.Rows.step_dedup
    split
    · exact ih
    · rename_i c
      refine List.nodup_append.mpr ⟨ih, by simp, fun a ha b hb z => c ?_⟩
      rw [List.any_eq_true]
      exact ⟨a, ha, by rw [z, List.mem_singleton.mp hb]; exact beq_self_eq_true _⟩
theorem met_mem (ns : List Int) (k : Int) : k ∈ PyProof.Rows.firstMet (fun i => ns.getD i 0) ns.length ↔ k ∈ ns := by
  have h := PyProof.Rows.firstMet_any (fun i => ns.getD i 0) ns.length k
  have e : (List.range ns.length).map (fun i => ns.getD i 0) = ns := by
    refine List.ext_getElem (by simp) fun i h1 h2 => ?_
    simp [h2]
  rw [e] at h
  have m : ∀ l : List Int, (l.any (· == k)) = true ↔ k ∈ l := fun l => by
    rw [List.any_eq_true]
    exact ⟨fun ⟨x, hx, z⟩ => by rw [← beq_iff_eq.mp z]; exact hx, fun hk => ⟨k, hk, beq_self_eq_true _⟩⟩
  rw [← m, ← m, h]
theorem pe_lenSet {X : Cx} {a : Expr} {ta : TE} {p p2 q pos : Pos} (hc : X.calm = true) (hg : Gl X "len") (hm : X.mg "len" = none) (hg2 : Gl X "set") (hm2 : X.mg "set" = none) (ha : PE X a ta)
    (h1 : starEach [a] X.env = (false, eval a X.env) :: starEach [] X.env := by rfl) : PE X (.Call (.Name "len" p) [.Call (.Name "set" p2) [a] [] q] [] pos) (tLenSet X.K ta) :=
  ⟨fun pins s σ H Q I h => Call_ (ld_blt I hg hm PySem.boot_len (PyProof.Rows.callWith_builtin1 (PyProof.Rows.args_cons (Call_ (ld_blt I hg2 hm2 PyProof.Rows.boot_set (PyProof.Rows.callWith_type1 (PyProof.Rows.args_cons (thn (ha.run pins s σ H _ I h) fun v s1 ⟨x, HH, I1, rx, l, ns, ex, hq, hl, q1⟩ => PyProof.Rows.args_nil (by
    subst ex
    cases rx
    obtain ⟨its, r, pl, hz⟩ := I1.list hq
    have hsz : its.toArray.size = ns.length := by rw [List.size_toArray, ← r.length, List.length_map]
    exact call_set_list (I1.ok.hd hc) pl.isList (ns := ns) (by simpa using r.ints) (by rw [hsz]; show ns.length + 1 < 4096; omega) fun hh tk hS hk => PyProof.Rows.args_nil (by
      rw [hsz] at hS
      obtain ⟨o, es, ep, tt, ho, hex, hd, _, _, _, hf, hn⟩ := hS
      have I2 : Inv X pins σ HH { s1 with heap := hh, toks := tk } := I1.kept fun b o e => hk b o (Heap.lt_size e) e
      have hfew := PyProof.Rows.firstMet_length_le (fun i => ns.getD i 0) ns.length
      exact call_len_set ho hex hd hf (by rw [hn]; omega) ⟨.int (PyProof.Rows.firstMet (fun i => ns.getD i 0) ns.length).length, HH, I2.tok _, ⟨_, by rw [hn]⟩, q1 _ (met_nd _ _) (met_mem ns)⟩))) h1) h1 rfl))) rfl) rfl rfl))⟩
section
variable {K : PySem.W.Frag} {σ : L2.St} {B H : Hp} {S : List Addr} {te : TE}
theorem ev_lenSet {ns ds : List Int} (h : EvD K te σ B (.list (ns.map .int))) (hl : ns.length ≤ 4000) (hd : ds.Nodup) (hm : ∀ k, k ∈ ds ↔ k ∈ ns) : EvD K (tLenSet K te) σ B (.int (ds.length : Nat)) :=
  evR_of (fun S H w Q q => h.bind w fun x B1 H1 e1 eB1 w1 rx => by
    cases rx with
    | @lst a xs _ hs hdd =>
    have e := DqAll.ints_eq hdd
    subst e
    refine ⟨a, ns, rfl, ex_l w1.ex hs, hl, fun ds2 g1 g2 => ?_⟩
    have e2 : ds2.length = ds.length := ((List.perm_ext_iff_of_nodup g1 hd).mpr fun k => (g2 k).trans (hm k).symm).length_eq
    rw [e2]
    exact q _ B1 H1 e1 eB1 w1 (.int _)) stays_dp
theorem ev_revL {ds : List PyData} (h : EvD K te σ B (.list ds)) : EvD K (tRevL K te) σ B (.list ds.reverse) :=
  evR_of (fun S H w Q q => h.bind w fun x B1 H1 e1 eB1 w1 rx => by
    cases rx with
    | @lst a xs _ hs hd =>
    have hr : ∀ {vs : List V} {ds : List PyData}, DqAll K B1 vs ds → DqAll K B1 vs.reverse ds.reverse := by
      intro vs
      induction vs with
      | nil => intro ds h; cases h; exact .nil
      | cons v vs ih =>
        intro ds h
        cases h with
        | cons h1 h2 =>
          rw [List.reverse_cons, List.reverse_cons]
          exact DqAll.snoc (ih h2) h1
    exact ⟨a, xs, rfl, ex_l w1.ex hs, fun p hp => q (.ref p) _ _ (e1.trans (Ex.new hp)) (eB1.trans (w1.newE (o := .lst xs.reverse) hp)) (w1.new hp) (.lst (sq_of upd_same) (DqAll.mono (w1.newE hp) (hr hd)))⟩) stays_dp
end
end Pw

/-! ## PwOwn -/
namespace Pw
open PySem L2 Evl
section
variable {K : PySem.W.Frag} {σ : L2.St} {B H H' : Hp} {S : List Addr} {b : Addr} {k m c : Nat} {te ta tb tl : TE} {tt : TT} {tA : TA} {wi : TI} {g : TG} {R R' : V → Hp → Prop} {ds es : List PyData} {tu : TS} {D : Ends}
/-- [e for x in l if t]: a list of one's own -/
theorem lc_ownP {α : Type} (l : List α) (enc : α → PyData) (f : α → Bool) (e : α → PyData) {vs : List Nat} (hk : WkD K wi σ B (l.map enc)) (hl : l.length ≤ 40000) (turn : ∀ a ∈ l, TurnLc K g tt te σ vs B (enc a) (f a) (e a))
    (w : Wd S B H) {Q : VK} (q : ∀ a xs B' H', H a = none → Ex H H' → Ex B B' → Wd (a :: S) B' H' → H' a = some (.lst xs) → DqAll K B' xs ((l.filter f).map e) → Q (.ref a) H') : tLc wi g tt te vs σ H Q := by
  refine hk S H w _ fun J B1 H1 e1 eB1 w1 hgo hstop hyld Dl hD => ?_
  rw [List.length_map] at hgo hstop hyld
  refine ⟨fun i m H' => m = l.length - i ∧ i ≤ l.length ∧ Ex H1 H' ∧ ∃ B' acc, Ex B1 B' ∧ Wd (Dl :: S) B' H' ∧ H' Dl = some (.lst acc) ∧ DqAll K B' acc (((l.take i).filter f).map e), ⟨l.length, by omega, Nat.zero_le _, Ex.new hD, B1, [], Ex.refl _, w1.own hD, upd_same, .nil⟩, ?_⟩
  rintro i m H2 ⟨rfl, hi, eH, B2, acc, eB2, w2, hA, hd⟩
  by_cases hlt : i < l.length
  · obtain ⟨a, ha⟩ : ∃ a, l[i]? = some a := ⟨l[i], List.getElem?_eq_getElem hlt⟩
    have hmem : a ∈ l := List.mem_of_getElem? ha
    refine .inr ⟨hgo i H2 (eB2.trans w2.ex) hlt, fun H' => ∃ B', ∃ acc, Ex H1 H' ∧ Ex B1 B' ∧ Wd (Dl :: S) B' H' ∧ H' Dl = some (.lst acc) ∧ DqAll K B' acc (((l.take (i + 1)).filter f).map e), fun H' ⟨B', acc, h1, h2, h3, h4, h5⟩ => ⟨l.length - (i + 1), by omega, rfl, by omega, h1, B', acc, h2, h3, h4, h5⟩, fun x H3 hy => ?_⟩
    obtain ⟨B3, e3, eB3, w3, d, hd1, hd2⟩ := hyld i (Dl :: S) B2 H2 x H3 eB2 w2 hlt hy
    have ed : enc a = d := by
      rw [List.getElem?_map, ha] at hd1
      exact Option.some.inj hd1
    subst ed
    have htk : l.take (i + 1) = l.take i ++ [a] := by rw [List.take_add_one, ha]; rfl
    have hA3 := e3 _ _ hA
    refine turn a hmem x (Dl :: S) B3 H3 (eB1.trans (eB2.trans eB3)) w3 hd2 _ _ (fun hf y B4 H4 e4 eB4 w4 hy4 => ?_) (fun hf B4 H4 e4 eB4 w4 => ?_)
    · have hlen : acc.length ≤ l.length := by
        rw [DqAll.length hd, List.length_map]
        refine Nat.le_trans (List.length_filter_le _ _) ?_
        rw [List.length_take]
        exact Nat.min_le_right _ _
      refine ⟨acc, e4 _ _ hA3, sz_lt (by omega), B4, acc ++ [y], ?_, eB2.trans (eB3.trans eB4), w4.put List.mem_cons_self, upd_same, ?_⟩
      · exact (eH.trans (e3.trans e4)).mut hD
      · rw [htk, List.filter_append, List.filter_cons, if_pos hf, List.map_append]
        exact DqAll.snoc (DqAll.mono (eB3.trans eB4) hd) hy4
    · refine ⟨B4, acc, eH.trans (e3.trans e4), eB2.trans (eB3.trans eB4), w4, e4 _ _ hA3, ?_⟩
      rw [htk, List.filter_append, List.filter_cons, if_neg (by rw [hf]; decide)]
      show DqAll K B4 acc ((List.filter f (l.take i) ++ []).map e)
      rw [List.append_nil]
      exact DqAll.mono (eB3.trans eB4) hd
  · have ei : i = l.length := by omega
    subst ei
    rw [List.take_length] at hd
    exact .inl ⟨hstop _ H2 (eB2.trans w2.ex) rfl, q Dl acc B2 H2 (fresh_back e1 hD) (e1.trans eH) (eB1.trans eB2) w2 hA hd⟩
theorem ev_lcDL {α : Type} (l : List α) (enc : α → PyData) (f : α → Bool) (e : α → PyData) {vs : List Nat} (hk : WkD K wi σ B (l.map enc)) (hl : l.length ≤ 40000) (turn : ∀ a ∈ l, TurnLc K g tt te σ vs B (enc a) (f a) (e a)) :
    EvR (tLc wi g tt te vs) σ B (DL K ((l.filter f).map e)) :=
  evR_of (fun S H w Q q => lc_ownP l enc f e hk hl turn w fun a xs B1 H1 ha e1 eB1 w1 hA hd => q (.ref a) _ H1 e1 (eB1.trans w1.giveE) (w1.give hA (w.nin ha)) ⟨a, xs, rfl, upd_same, DqAll.mono w1.giveE hd⟩) stays_DL
/-- .. of which a part draws -/
theorem lc_own {α β : Type} (l : List α) (enc : α → PyData) (encY : β → PyData) (Pr : Nat → List β → Prop) {vs : List Nat} (hk : WkD K wi σ B (l.map enc)) (hl : l.length ≤ 40000) (h0 : Pr 0 []) (hlen : ∀ i ys, Pr i ys → ys.length ≤ i)
    (turn : ∀ i a ys, l[i]? = some a → Pr i ys → ∀ x S' B' H' c', Ex B B' → Wd S' B' H' → b ∈ S' → BoxAt H' b c' → c' + k ≤ lid → Dq K B' x (enc a) → ∀ (Qy : VK) (Qn : Hp → Prop),
      (∀ y yv B2 H2, Xs [b] H' H2 → BoxAt H2 b (c' + k) → Wd S' B2 H2 → Ex B' B2 → Dq K B2 yv (encY y) → Pr (i + 1) (ys ++ [y]) → Qy yv H2) → (Pr (i + 1) ys → ∀ B2 H2, Xs [b] H' H2 → BoxAt H2 b (c' + k) → Wd S' B2 H2 → Ex B' B2 → Qn H2) →
      g x (wipe σ vs) H' fun σ2 H2 => wipe σ2 vs = wipe σ vs ∧ tt σ2 H2 fun b H3 => if b = true then te σ2 H3 Qy else Qn H3)
    (w : Wd S B H) (hb : b ∈ S) (hB : BoxAt H b c) (hlid : c + l.length * k ≤ lid) {Q : VK} (q : ∀ a xs ys B' H', H a = none → Xs [b] H H' → BoxAt H' b (c + l.length * k) → Ex B B' → Wd (a :: S) B' H' → H' a = some (.lst xs) → Pr l.length ys → DqAll K B' xs (ys.map encY) → Q (.ref a) H') : tLc wi g tt te vs σ H Q := by
  refine hk S H w _ fun J B1 H1 e1 eB1 w1 hgo hstop hyld Dl hD => ?_
  rw [List.length_map] at hgo hstop hyld
  have nbD : Dl ≠ b := fun z => by
    obtain ⟨o, ho⟩ := (hB.ex e1).some
    rw [← z, hD] at ho
    cases ho
  refine ⟨fun i m H' => m = l.length - i ∧ i ≤ l.length ∧ Xs [b] H1 H' ∧ BoxAt H' b (c + i * k) ∧ ∃ B' acc ys, Ex B1 B' ∧ Wd (Dl :: S) B' H' ∧ H' Dl = some (.lst acc) ∧ Pr i ys ∧ DqAll K B' acc (ys.map encY),
    ⟨l.length, by omega, Nat.zero_le _, Xs.of (Ex.new hD), ((hB.ex e1).ex (Ex.new hD)).mono (by omega), B1, [], [], Ex.refl _, w1.own hD, upd_same, h0, .nil⟩, ?_⟩
  rintro i m H2 ⟨rfl, hi, xH, hB2, B2, acc, ys, eB2, w2, hA, hP, hd⟩
  by_cases hlt : i < l.length
  · obtain ⟨a, ha⟩ : ∃ a, l[i]? = some a := ⟨l[i], List.getElem?_eq_getElem hlt⟩
    have hmul : (i + 1) * k ≤ l.length * k := Nat.mul_le_mul_right k hlt
    have hsuc : (i + 1) * k = i * k + k := Nat.succ_mul i k
    refine .inr ⟨hgo i H2 (eB2.trans w2.ex) hlt, fun H' => Xs [b] H1 H' ∧ BoxAt H' b (c + (i + 1) * k) ∧ ∃ B' acc ys, Ex B1 B' ∧ Wd (Dl :: S) B' H' ∧ H' Dl = some (.lst acc) ∧ Pr (i + 1) ys ∧ DqAll K B' acc (ys.map encY), fun H' ⟨h1, h2, h3⟩ => ⟨l.length - (i + 1), by omega, rfl, by omega, h1, h2, h3⟩, fun x H3 hy => ?_⟩
    obtain ⟨B3, e3, eB3, w3, d, hd1, hd2⟩ := hyld i (Dl :: S) B2 H2 x H3 eB2 w2 hlt hy
    have ed : enc a = d := by
      rw [List.getElem?_map, ha] at hd1
      exact Option.some.inj hd1
    subst ed
    have hA3 := e3 _ _ hA
    have hlen2 : acc.length ≤ 40000 := by
      have := hlen _ _ hP
      rw [DqAll.length hd, List.length_map]
      omega
    refine turn i a ys ha hP x (Dl :: S) B3 H3 (c + i * k) (eB1.trans (eB2.trans eB3)) w3 (List.mem_cons_of_mem _ hb) (hB2.ex e3) (by omega) hd2 _ _ (fun y yv B4 H4 x4 hB4 w4 eB4 hy4 hP4 => ?_) (fun hP4 B4 H4 x4 hB4 w4 eB4 => ?_)
    · have hA4 := x4 _ _ (fun z => nbD (List.mem_singleton.mp z)) hA3
      refine ⟨acc, hA4, sz_lt (by omega), ?_, (hB4.mono (by omega)).upd nbD.symm, B4, acc ++ [yv], ys ++ [y], eB2.trans (eB3.trans eB4), w4.put List.mem_cons_self, upd_same, hP4, ?_⟩
      · intro p o hp ho
        rw [upd_ne (ne_of_none ho hD)]
        exact x4 p o hp (e3 _ _ (xH p o hp ho))
      · rw [List.map_append]
        exact DqAll.snoc (DqAll.mono (eB3.trans eB4) hd) hy4
    · exact ⟨xH.trans ((Xs.of e3).trans x4), hB4.mono (by omega), B4, acc, ys, eB2.trans (eB3.trans eB4), w4, x4 _ _ (fun z => nbD (List.mem_singleton.mp z)) hA3, hP4, DqAll.mono (eB3.trans eB4) hd⟩
  · have ei : i = l.length := by omega
    subst ei
    exact .inl ⟨hstop _ H2 (eB2.trans w2.ex) rfl, q Dl acc ys B2 H2 (fresh_back e1 hD) ((Xs.of e1).trans xH) hB2 (eB1.trans eB2) w2 hA hP hd⟩
end
end Pw

/-! ## PwN -/
namespace Pw
open PySem L2 Evl

theorem one_arg {K : PySem.W.Frag} {B : Hp} {vs : List V} {a : PyData} (h : DqAll K B vs [a]) : ∃ v1, vs = [v1] ∧ Dq K B v1 a := by
  cases h with
  | cons h1 t => cases t; exact ⟨_, rfl, h1⟩
theorem args4 {K : PySem.W.Frag} {B : Hp} {vs : List V} {a b c d : PyData} (h : DqAll K B vs [a, b, c, d]) : ∃ v1 v2 v3 v4, vs = [v1, v2, v3, v4] ∧ Dq K B v1 a ∧ Dq K B v2 b ∧ Dq K B v3 c ∧ Dq K B v4 d := by
  cases h with
  | cons h1 t =>
    obtain ⟨v2, v3, v4, rfl, h2, h3, h4⟩ := args3 t
    exact ⟨_, v2, v3, v4, rfl, h1, h2, h3, h4⟩
theorem args5 {K : PySem.W.Frag} {B : Hp} {vs : List V} {a b c d e : PyData} (h : DqAll K B vs [a, b, c, d, e]) : ∃ v1 v2 v3 v4 v5, vs = [v1, v2, v3, v4, v5] ∧ Dq K B v1 a ∧ Dq K B v2 b ∧ Dq K B v3 c ∧ Dq K B v4 d ∧ Dq K B v5 e := by
  cases h with
  | cons h1 t =>
    obtain ⟨v2, v3, v4, v5, rfl, h2, h3, h4, h5⟩ := args4 t
    exact ⟨_, v2, v3, v4, v5, rfl, h1, h2, h3, h4, h5⟩
theorem args6 {K : PySem.W.Frag} {B : Hp} {vs : List V} {a b c d e f : PyData} (h : DqAll K B vs [a, b, c, d, e, f]) : ∃ v1 v2 v3 v4 v5 v6, vs = [v1, v2, v3, v4, v5, v6] ∧ Dq K B v1 a ∧ Dq K B v2 b ∧ Dq K B v3 c ∧ Dq K B v4 d ∧ Dq K B v5 e ∧ Dq K B v6 f := by
  cases h with
  | cons h1 t =>
    obtain ⟨v2, v3, v4, v5, v6, rfl, h2, h3, h4, h5, h6⟩ := args5 t
    exact ⟨_, v2, v3, v4, v5, v6, rfl, h1, h2, h3, h4, h5, h6⟩

/-! ### what the names are worth: no places in sight -/
/-- a thing of one's own: a list, a dict (its keys told) -/
inductive Shape where
  | lst | dK (ks : List Key) | dT (ks : List (List Key)) | ins (C dx : Addr) (fn : List Str)
def ho : Shape → List V → HO
  | .lst, xs => .lst xs
  | .dK ks, xs => .dK (ks.zip xs)
  | .dT ks, xs => .dT (ks.zip xs)
  | .ins C dx fn, xs => .ins C dx (fn.zip xs)
/-- a name's worth: data; an own thing with its data; the box after c draws; what stays true of it; an own thing that stands at many places, by what is true of it in what is frozen and in what is -/
inductive Sl where
  | d (x : PyData) | o (s : Shape) (ds : List PyData) | b (a : Addr) (c : Nat) | q (R : V → Hp → Prop) | n (As : List Addr) (N : V → Hp → Hp → Prop)
/-- it speaks of these places alone -/
structure Reg (As : List Addr) (N : V → Hp → Hp → Prop) : Prop where
  mv : ∀ v B B' H H', Ex B B' → (∀ a ∈ As, H' a = H a) → N v B H → N v B' H'
  at_ : ∀ v B H, N v B H → ∀ a ∈ As, ∃ s xs, H a = some (ho s xs)
abbrev En0 := List (Option Sl)
/-- what stands when a def begins: its world, the places that it may change -/
structure Fr where
  K : PySem.W.Frag
  S : List Addr
  B : Hp
  H : Hp
  bs : List Addr
def SlF (K : PySem.W.Frag) (B : Hp) (v : V) : Sl → Prop
  | .d x => Dq K B v x
  | .o s ds => ∃ a xs, v = .ref a ∧ B a = some (ho s xs) ∧ DqAll K B xs ds
  | .b a _ => v = .ref a
  | .q R => Stays R ∧ R v B
  | .n As N => Reg As N ∧ N v B B
def SlO (F : Fr) (S : List Addr) (B H : Hp) (v : V) : Sl → Prop
  | .d x => Dq F.K B v x
  | .o s ds => ∃ a xs, v = .ref a ∧ a ∈ S ∧ F.H a = none ∧ H a = some (ho s xs) ∧ DqAll F.K B xs ds
  | .b a c => v = .ref a ∧ (a ∈ F.bs ∨ F.H a = none) ∧ a ∈ S ∧ BoxAt H a c
  | .q R => Stays R ∧ R v B
  | .n As N => Reg As N ∧ N v B H ∧ ∀ a ∈ As, a ∈ S ∧ (a ∈ F.bs ∨ F.H a = none)
structure EnvF (K : PySem.W.Frag) (B : Hp) (σ : L2.St) (Γ : En0) : Prop where
  len : σ.length = Γ.length
  ok : ∀ (i : Nat) (s : Sl), Γ[i]? = some (some s) → ∃ v, σ[i]? = some (some v) ∧ SlF K B v s
def isO : Option Sl → Bool
  | some (.o _ _) => true
  | some (.b _ _) => true
  | some (.n _ _) => true
  | _ => false
/-- one place alone -/
def isH : Option Sl → Bool
  | some (.o _ _) => true
  | some (.b _ _) => true
  | _ => false
/-- the places that are a name's own -/
def ownA (x : Option (Option V)) : Option Sl → Addr → Prop
  | some (.o _ _), a => x = some (some (.ref a))
  | some (.b _ _), a => x = some (some (.ref a))
  | some (.n As _), a => a ∈ As
  | _, _ => False
/-- no two names own one place -/
def Apt (σ : L2.St) (Γ : En0) : Prop := ∀ (i j : Nat) (a : Addr) (s t : Option Sl), i ≠ j → Γ[i]? = some s → Γ[j]? = some t → ownA σ[i]? s a → ¬ ownA σ[j]? t a
structure En (F : Fr) (S : List Addr) (B H : Hp) (σ : L2.St) (Γ : En0) : Prop where
  w : Wd S B H
  sub : ∀ a ∈ F.S, a ∈ S
  eB : Ex F.B B
  xH : Xs F.bs F.H H
  fb : ∀ b ∈ F.bs, b ∈ F.S
  hb0 : ∀ b ∈ F.S, F.H b ≠ none
  len : σ.length = Γ.length
  ok : ∀ (i : Nat) (s : Sl), Γ[i]? = some (some s) → ∃ v, σ[i]? = some (some v) ∧ SlO F S B H v s
  ap : Apt σ Γ
section
variable {F : Fr} {K : PySem.W.Frag} {S S' : List Addr} {B B' H H' : Hp} {σ : L2.St} {Γ : En0} {i j : Nat} {v : V} {d : PyData} {s : Shape} {ds : List PyData} {a p : Addr} {xs : List V} {c : Nat}
theorem SlO.ext {t : Sl} (eH : Ex H H') (eB : Ex B B') (hS : ∀ a ∈ S, a ∈ S') (h : SlO F S B H v t) : SlO F S' B' H' v t := by
  match t, h with
  | .d x, h => exact Dq.mono eB h
  | .o s ds, ⟨a, xs, h1, h2, h3, h4, h5⟩ => exact ⟨a, xs, h1, hS a h2, h3, eH _ _ h4, DqAll.mono eB h5⟩
  | .b b c, ⟨h1, h2, h3, h4⟩ => exact ⟨h1, h2, hS b h3, h4.ex eH⟩
  | .q R, ⟨h1, h2⟩ => exact ⟨h1, h1 _ _ _ eB h2⟩
  | .n As N, ⟨h1, h2, h3⟩ => exact ⟨h1, h1.mv _ _ _ _ _ eB (fun a m => by
      obtain ⟨s, xs, e⟩ := h1.at_ _ _ _ h2 a m
      rw [e, eH _ _ e]) h2, fun a m => ⟨hS a (h3 a m).1, (h3 a m).2⟩⟩
theorem En.ext (e : En F S B H σ Γ) (eH : Ex H H') (eB : Ex B B') (w : Wd S B' H') : En F S B' H' σ Γ :=
  ⟨w, e.sub, e.eB.trans eB, e.xH.trans (Xs.of eH), e.fb, e.hb0, e.len, fun i s h => by
    obtain ⟨v, h1, h2⟩ := e.ok i s h
    exact ⟨v, h1, h2.ext eH eB fun a m => m⟩, e.ap⟩
theorem get_set {α : Type} {l : List α} {i j : Nat} {x y : α} (h : (l.set i x)[j]? = some y) : (i = j ∧ y = x ∧ i < l.length) ∨ (i ≠ j ∧ l[j]? = some y) := by
  by_cases e : i = j
  · subst e
    by_cases hl : i < l.length
    · rw [List.getElem?_set_self hl] at h
      exact .inl ⟨rfl, (Option.some.inj h).symm, hl⟩
    · rw [List.getElem?_eq_none (by rw [List.length_set]; omega)] at h
      cases h
  · rw [List.getElem?_set_ne e] at h
    exact .inr ⟨e, h⟩
theorem ownH {x : Option (Option V)} {s : Option Sl} {a : Addr} (h : isH s = true) (hx : x = some (some (.ref a))) : ownA x s a := by
  match s, h with
  | some (.o _ _), _ => exact hx
  | some (.b _ _), _ => exact hx
/-- as long as both own one place each -/
theorem En.ap0 (e : En F S B H σ Γ) : ∀ (i j : Nat) (a : Addr), i ≠ j → (∃ s, Γ[i]? = some s ∧ isH s = true) → (∃ s, Γ[j]? = some s ∧ isH s = true) → σ[i]? = some (some (.ref a)) → σ[j]? ≠ some (some (.ref a)) := fun i j a hij ⟨s, hs, o1⟩ ⟨t, ht, o2⟩ h1 h2 => e.ap i j a s t hij hs ht (ownH o1 h1) (ownH o2 h2)
theorem apt_set {t : Option Sl} {σ' : L2.St} (h0 : Apt σ Γ) (hσ : ∀ j, j ≠ i → σ'[j]? = σ[j]?) (h : ∀ a, ownA σ'[i]? t a → ∀ j s, j ≠ i → Γ[j]? = some s → ¬ ownA σ[j]? s a) : Apt σ' (Γ.set i t) := by
  intro j k a s u hjk hj hk h1 h2
  rcases get_set hj with ⟨rfl, rfl, _⟩ | ⟨nj, gj⟩
  · rcases get_set hk with ⟨rfl, _, _⟩ | ⟨nk, hk⟩
    · exact hjk rfl
    · rw [hσ k (fun z => nk z.symm)] at h2
      exact h a h1 k u (fun z => nk z.symm) hk h2
  · rw [hσ j (fun z => nj z.symm)] at h1
    rcases get_set hk with ⟨rfl, rfl, _⟩ | ⟨nk, gk⟩
    · exact h a h2 j s (fun z => nj z.symm) gj h1
    · rw [hσ k (fun z => nk z.symm)] at h2
      exact h0 j k a s u hjk gj gk h1 h2
/-- less of one's own -/
theorem apt_less {t : Option Sl} (h0 : Apt σ Γ) (h : ∀ a s, Γ[i]? = some s → ownA σ[i]? t a → ownA σ[i]? s a) : Apt σ (Γ.set i t) := fun j k a s u hjk hj hk h1 h2 => by
  rcases get_set hj with ⟨rfl, rfl, hl⟩ | ⟨nj, gj⟩
  · rcases get_set hk with ⟨rfl, _, _⟩ | ⟨nk, hk⟩
    · exact hjk rfl
    · exact h0 _ k a _ u hjk (List.getElem?_eq_getElem hl) hk (h a _ (List.getElem?_eq_getElem hl) h1) h2
  · rcases get_set hk with ⟨rfl, rfl, hl⟩ | ⟨nk, gk⟩
    · exact h0 j _ a s _ hjk gj (List.getElem?_eq_getElem hl) h1 (h a _ (List.getElem?_eq_getElem hl) h2)
    · exact h0 j k a s u hjk gj gk h1 h2
theorem SlO.ownAt {s : Sl} (h : SlO F S B H v s) (ho : ownA (some (some v)) (some s) a) : ∃ o, H a = some o := by
  match s, h, ho with
  | .o s ds, ⟨b, xs, h1, h2, h3, h4, h5⟩, ho =>
    subst h1
    cases ho
    exact ⟨_, h4⟩
  | .b b c, ⟨h1, h2, h3, h4⟩, ho =>
    subst h1
    cases ho
    exact h4.some
  | .n As N, ⟨h1, h2, h3⟩, ho =>
    obtain ⟨s, xs, e⟩ := h1.at_ _ _ _ h2 a ho
    exact ⟨_, e⟩
/-- what is nowhere is no name's own -/
theorem En.notOwn (e : En F S B H σ Γ) (hp : H a = none) {j : Nat} {s : Option Sl} (hj : Γ[j]? = some s) : ¬ ownA σ[j]? s a := fun h => by
  cases s with
  | none => exact h
  | some s =>
    obtain ⟨v, h1, h2⟩ := e.ok j s hj
    rw [h1] at h
    obtain ⟨o, ho⟩ := h2.ownAt h
    rw [hp] at ho
    cases ho
/-- a name bound anew -/
theorem En.setG {t : Sl} (e : En F S B H σ Γ) (h : SlO F S B H v t) (ho : ∀ a, ownA (some (some v)) (some t) a → ∀ j s, j ≠ i → Γ[j]? = some s → ¬ ownA σ[j]? s a) : En F S B H (σ.set i (some v)) (Γ.set i (some t)) := by
  refine ⟨e.w, e.sub, e.eB, e.xH, e.fb, e.hb0, by rw [List.length_set, List.length_set]; exact e.len, fun j s hj => ?_, ?_⟩
  · rcases get_set hj with ⟨rfl, hs, hl⟩ | ⟨hne, hj⟩
    · cases hs
      exact ⟨v, by rw [List.getElem?_set_self (by rw [e.len]; exact hl)], h⟩
    · obtain ⟨u, h1, h2⟩ := e.ok j s hj
      exact ⟨u, by rw [List.getElem?_set_ne hne]; exact h1, h2⟩
  · refine apt_set e.ap (fun j hj => List.getElem?_set_ne (Ne.symm hj)) fun a h1 => ?_
    by_cases hl : i < σ.length
    · rw [List.getElem?_set_self hl] at h1
      exact ho a h1
    · intro j s hj hs h2
      rw [List.getElem?_eq_none (by rw [List.length_set]; omega)] at h1
      refine ho a ?_ j s hj hs h2
      match t, h1 with
      | .o _ _, h1 => cases h1
      | .b _ _, h1 => cases h1
      | .n As N, h1 => exact h1
theorem En.set {t : Sl} (e : En F S B H σ Γ) (h : SlO F S B H v t) (ho : isO (some t) = true → False) : En F S B H (σ.set i (some v)) (Γ.set i (some t)) := e.setG h fun a h1 => by
  match t, h1 with
  | .o _ _, h1 => exact (ho rfl).elim
  | .b _ _, h1 => exact (ho rfl).elim
  | .n As N, h1 => exact (ho rfl).elim
/-- a name forgotten -/
theorem En.drop (e : En F S B H σ Γ) (i : Nat) : En F S B H σ (Γ.set i none) := ⟨e.w, e.sub, e.eB, e.xH, e.fb, e.hb0, by rw [List.length_set]; exact e.len, fun j s hj => by
  rcases get_set hj with ⟨_, hs, _⟩ | ⟨_, hj⟩
  · cases hs
  · exact e.ok j s hj, apt_less e.ap fun a s _ h => h.elim⟩
theorem En.setD (e : En F S B H σ Γ) (h : Dq F.K B v d) : En F S B H (σ.set i (some v)) (Γ.set i (some (.d d))) := e.set (t := .d d) h fun z => by cases z
theorem En.freshH (e : En F S B H σ Γ) (h : H p = none) : F.H p = none := by
  cases g : F.H p with
  | none => rfl
  | some o =>
    by_cases m : p ∈ F.bs
    · obtain ⟨u, hu⟩ := e.w.at_ p (e.sub p (e.fb p m))
      rw [hu] at h
      cases h
    · rw [e.xH p o m g] at h
      cases h
theorem En.nbs (e : En F S B H σ Γ) (h : F.H p = none) (hb : ∀ b ∈ F.bs, ∃ o, F.H b = some o) : p ∉ F.bs := fun m => by
  obtain ⟨o, ho⟩ := hb p m
  rw [h] at ho
  cases ho
/-- an own thing otherwise -/
theorem xs_own {bs : List Addr} {H0 : Hp} {o : HO} (x : Xs bs H0 H) (h : H0 a = none) : Xs bs H0 (upd H a o) := fun b u n g => by
  rw [upd_ne (ne_of_none g h)]
  exact x b u n g
/-- a new own thing -/
theorem En.own (e : En F S B H σ Γ) (hp : H p = none) (h : DqAll F.K B xs ds) : En F (p :: S) B (upd H p (ho s xs)) (σ.set i (some (.ref p))) (Γ.set i (some (.o s ds))) := by
  have e1 : En F (p :: S) B (upd H p (ho s xs)) σ Γ := ⟨e.w.own hp, fun a m => List.mem_cons_of_mem _ (e.sub a m), e.eB, e.xH.trans (Xs.of (Ex.new hp)), e.fb, e.hb0, e.len, fun i s h => by
    obtain ⟨v, h1, h2⟩ := e.ok i s h
    exact ⟨v, h1, h2.ext (Ex.new hp) (Ex.refl _) fun a m => List.mem_cons_of_mem _ m⟩, e.ap⟩
  exact e1.setG (t := .o s ds) ⟨p, xs, rfl, List.mem_cons_self, e.freshH hp, upd_same, h⟩ fun a h1 j s hj hs => by
    cases h1
    exact e.notOwn hp hs
/-- an own thing changed -/
theorem En.chg {s' : Shape} {ds' : List PyData} {xs' : List V} (e : En F S B H σ Γ) (hi : Γ[i]? = some (some (.o s ds))) (ha : σ[i]? = some (some (.ref a))) (h : DqAll F.K B xs' ds') : En F S B (upd H a (ho s' xs')) σ (Γ.set i (some (.o s' ds'))) := by
  obtain ⟨v, h1, ⟨a1, xs, h2, h3, h4, h5, h6⟩⟩ := e.ok i _ hi
  rw [h1] at ha
  cases ha
  cases h2
  have hl : i < Γ.length := (List.getElem?_eq_some_iff.mp hi).1
  refine ⟨e.w.put h3, e.sub, e.eB, xs_own e.xH h4, e.fb, e.hb0, by rw [List.length_set]; exact e.len, fun j s hj => ?_, apt_less e.ap fun b s hs hb => ?_⟩
  · rcases get_set hj with ⟨rfl, hs, _⟩ | ⟨hne, hj⟩
    · cases hs
      exact ⟨_, h1, a, xs', rfl, h3, h4, upd_same, h⟩
    · obtain ⟨u, g1, g2⟩ := e.ok j s hj
      refine ⟨u, g1, ?_⟩
      match s, g2, hj with
      | .d x, g2, _ => exact g2
      | .q R, g2, _ => exact g2
      | .n As N, ⟨k1, k2, k3⟩, hj =>
        have hn : a ∉ As := fun m => e.ap i j a _ _ hne hi hj (by rw [h1]; rfl) m
        exact ⟨k1, k1.mv _ _ _ _ _ (Ex.refl _) (fun b m => upd_ne fun z => hn (z ▸ m)) k2, k3⟩
      | .o s ds, ⟨b, ys, k1, k2, k3, k4, k5⟩, hj =>
        have : b ≠ a := fun z => by
          subst z
          subst k1
          exact e.ap0 i j b hne ⟨_, hi, rfl⟩ ⟨_, hj, rfl⟩ h1 g1
        exact ⟨b, ys, k1, k2, k3, by rw [upd_ne this]; exact k4, k5⟩
      | .b b c, ⟨k1, k2, k3, k4⟩, hj =>
        refine ⟨k1, k2, k3, k4.upd fun z => ?_⟩
        subst z
        subst k1
        exact e.ap0 i j b hne ⟨_, hi, rfl⟩ ⟨_, hj, rfl⟩ h1 g1
  · rw [hi] at hs
    cases hs
    exact hb
/-- an own list given away -/
theorem En.give (e : En F S B H σ Γ) (hi : Γ[i]? = some (some (.o .lst ds))) : ∃ S' B', En F S' B' H σ (Γ.set i (some (.d (.list ds)))) ∧ Ex B B' := by
  obtain ⟨v, h1, ⟨a, xs, rfl, h3, h4, h5, h6⟩⟩ := e.ok i _ hi
  have n0 : a ∉ F.S := fun m => e.hb0 a m h4
  have hBa : B a = none := e.w.no a h3
  have eB' : Ex B (upd B a (ho .lst xs)) := Ex.new hBa
  refine ⟨S.filter (fun x => !decide (x = a)), upd B a (ho .lst xs), ⟨⟨fun b u g => ?_, fun b m => ?_, fun b m => e.w.at_ b (List.mem_filter.mp m).1⟩, fun b m => List.mem_filter.mpr ⟨e.sub b m, ?_⟩, e.eB.trans eB', e.xH, e.fb, e.hb0, by rw [List.length_set]; exact e.len, fun j s hj => ?_, apt_less e.ap fun b s hs hb => hb.elim⟩, eB'⟩
  · by_cases z : b = a
    · subst z
      rw [upd_same] at g
      rw [h5]
      exact g
    · rw [upd_ne z] at g
      exact e.w.ex b u g
  · obtain ⟨m1, m2⟩ := List.mem_filter.mp m
    have z : b ≠ a := fun z => by simp [z] at m2
    rw [upd_ne z]
    exact e.w.no b m1
  · have z : b ≠ a := fun z => n0 (z ▸ m)
    simp [z]
  · rcases get_set hj with ⟨rfl, hs, _⟩ | ⟨hne, hj⟩
    · cases hs
      exact ⟨_, h1, .lst (sq_of (by show upd B a (ho .lst xs) a = _; rw [upd_same]; rfl)) (DqAll.mono eB' h6)⟩
    · obtain ⟨u, g1, g2⟩ := e.ok j s hj
      refine ⟨u, g1, ?_⟩
      match s, g2, hj with
      | .d x, g2, _ => exact Dq.mono eB' g2
      | .q R, ⟨g2, g3⟩, _ => exact ⟨g2, g2 _ _ _ eB' g3⟩
      | .n As N, ⟨k1, k2, k3⟩, hj =>
        have hn : a ∉ As := fun m => e.ap i j a _ _ hne hi hj (by rw [h1]; rfl) m
        exact ⟨k1, k1.mv _ _ _ _ _ eB' (fun b m => rfl) k2, fun b m => ⟨List.mem_filter.mpr ⟨(k3 b m).1, by simp [show b ≠ a from fun z => hn (z ▸ m)]⟩, (k3 b m).2⟩⟩
      | .o s ds, ⟨b, ys, k1, k2, k3, k4, k5⟩, hj =>
        have : b ≠ a := fun z => by
          subst z
          subst k1
          exact e.ap0 i j b hne ⟨_, hi, rfl⟩ ⟨_, hj, rfl⟩ h1 g1
        exact ⟨b, ys, k1, List.mem_filter.mpr ⟨k2, by simp [this]⟩, k3, k4, DqAll.mono eB' k5⟩
      | .b b c, ⟨k1, k2, k3, k4⟩, hj =>
        have : b ≠ a := fun z => by
          subst z
          subst k1
          exact e.ap0 i j b hne ⟨_, hi, rfl⟩ ⟨_, hj, rfl⟩ h1 g1
        exact ⟨k1, k2, List.mem_filter.mpr ⟨k3, by simp [this]⟩, k4⟩
/-- the names' worth without what is one's own -/
def hide (Γ : En0) : En0 := Γ.map fun s => if isO s then none else s
theorem hide_get {s : Sl} (h : (hide Γ)[i]? = some (some s)) : Γ[i]? = some (some s) ∧ isO (some s) = false := by
  unfold hide at h
  rw [List.getElem?_map] at h
  obtain ⟨t, h1, h2⟩ := Option.map_eq_some_iff.mp h
  by_cases o : isO t = true
  · rw [if_pos o] at h2
    cases h2
  · rw [if_neg o] at h2
    subst h2
    exact ⟨h1, by simpa using o⟩
theorem En.hidden (e : En F S B H σ Γ) : EnvF F.K B σ (hide Γ) := ⟨by unfold hide; rw [List.length_map]; exact e.len, fun i s h => by
  obtain ⟨h1, h2⟩ := hide_get h
  match s, h1, h2 with
  | .d x, h1, _ => exact e.ok i _ h1
  | .q R, h1, _ => exact e.ok i _ h1⟩
/-- what is one's own, held still -/
theorem En.frz2 (e : En F S B H σ Γ) : ∃ S1 B1, (∀ t ∈ S1, t ∈ S) ∧ Wd S1 B1 H ∧ Ex B B1 ∧ (∀ t ∈ S, t ∉ S1 → ∃ s xs, H t = some (ho s xs)) ∧ EnvF F.K B1 σ Γ := by
  classical
  let ow : Addr → Prop := fun a => (∃ (i : Nat) (s : Shape) (ds : List PyData), Γ[i]? = some (some (.o s ds)) ∧ σ[i]? = some (some (.ref a))) ∨ ∃ (i : Nat) (As : List Addr) (N : V → Hp → Hp → Prop), Γ[i]? = some (some (.n As N)) ∧ a ∈ As
  have own : ∀ {a}, ow a → a ∈ S ∧ ∃ s xs, H a = some (ho s xs) := fun {a} h => by
    rcases h with ⟨i, s, ds, h1, h2⟩ | ⟨i, As, N, h1, h2⟩
    · obtain ⟨v, g1, ⟨b, xs, g2, g3, _, g5, _⟩⟩ := e.ok i _ h1
      rw [g1] at h2
      cases h2
      cases g2
      exact ⟨g3, _, _, g5⟩
    · obtain ⟨v, g1, g2, g3, g4⟩ := e.ok i _ h1
      exact ⟨(g4 a h2).1, g2.at_ _ _ _ g3 a h2⟩
  let B1 : Hp := fun a => if ow a then H a else B a
  have eB : Ex B B1 := fun a o g => by
    by_cases z : ow a
    · rw [e.w.no a (own z).1] at g
      cases g
    · show (if ow a then H a else B a) = _
      rw [if_neg z]
      exact g
  refine ⟨S.filter fun a => !decide (ow a), B1, fun a m => (List.mem_filter.mp m).1, ⟨fun a o g => ?_, fun a m => ?_, fun a m => e.w.at_ a (List.mem_filter.mp m).1⟩, eB, fun t m n => ?_, e.len, fun i s h => ?_⟩
  · have g : (if ow a then H a else B a) = some o := g
    by_cases z : ow a
    · rw [if_pos z] at g
      exact g
    · rw [if_neg z] at g
      exact e.w.ex a o g
  · obtain ⟨m1, m2⟩ := List.mem_filter.mp m
    have z : ¬ ow a := by simpa using m2
    show (if ow a then H a else B a) = none
    rw [if_neg z]
    exact e.w.no a m1
  · by_cases z : ow t
    · exact (own z).2
    · exact absurd (List.mem_filter.mpr ⟨m, by simpa using z⟩) n
  · obtain ⟨v, h1, h2⟩ := e.ok i s h
    refine ⟨v, h1, ?_⟩
    match s, h, h2 with
    | .d x, _, h2 => exact Dq.mono eB h2
    | .q R, _, ⟨g1, g2⟩ => exact ⟨g1, g1 _ _ _ eB g2⟩
    | .b b c, _, ⟨g1, _⟩ => exact g1
    | .o s ds, h, ⟨a, xs, g1, g2, g3, g4, g5⟩ =>
      subst g1
      refine ⟨a, xs, rfl, ?_, DqAll.mono eB g5⟩
      show (if ow a then H a else B a) = _
      rw [if_pos (.inl ⟨i, s, ds, h, h1⟩)]
      exact g4
    | .n As N, h, ⟨g1, g2, g3⟩ =>
      exact ⟨g1, g1.mv _ _ _ _ _ eB (fun a m => if_pos (.inr ⟨i, As, N, h, m⟩)) g2⟩
end
theorem En.frz {F : Fr} {S : List Addr} {B H : Hp} {σ : L2.St} {Γ : En0} (e : En F S B H σ Γ) : ∃ S1 B1, Wd S1 B1 H ∧ Ex B B1 ∧ (∀ t ∈ S, t ∉ S1 → ∃ s xs, H t = some (ho s xs)) ∧ EnvF F.K B1 σ Γ := by
  obtain ⟨S1, B1, _, h⟩ := e.frz2
  exact ⟨S1, B1, h⟩
/-! ### data without lists: no own thing is in them -/
mutual
def noL : PyData → Bool
  | .list _ => false
  | .tuple ds => noLs ds
  | _ => true
def noLs : List PyData → Bool
  | [] => true
  | d :: ds => noL d && noLs ds
end
mutual
theorem Dq.noL {K : PySem.W.Frag} {H : Hp} {S S1 : List Addr} (hS : ∀ t ∈ S, t ∉ S1 → ∃ s xs, H t = some (ho s xs)) : ∀ {v : V} {d : PyData}, Dq K (mi H S1) v d → Pw.noL d = true → Dq K (mi H S) v d
  | _, _, .non, _ => .non
  | _, _, .bl b, _ => .bl b
  | _, _, .int i, _ => .int i
  | _, _, .str x, _ => .str x
  | _, _, .lst _ _, h => by simp [Pw.noL] at h
  | _, _, .tup (a := a) (xs := xs) h1 h2, h => by
    have hn : a ∉ S1 := fun m => by rw [mi_no m] at h1; cases h1
    rw [mi_at hn] at h1
    have hn2 : a ∉ S := fun m => by
      obtain ⟨s, ys, e⟩ := hS a m hn
      rw [h1] at e
      cases s <;> cases e
    exact .tup (by rw [mi_at hn2]; exact h1) (DqAll.noL hS h2 (by simpa [Pw.noL] using h))
theorem DqAll.noL {K : PySem.W.Frag} {H : Hp} {S S1 : List Addr} (hS : ∀ t ∈ S, t ∉ S1 → ∃ s xs, H t = some (ho s xs)) : ∀ {vs : List V} {ds : List PyData}, DqAll K (mi H S1) vs ds → Pw.noLs ds = true → DqAll K (mi H S) vs ds
  | _, _, .nil, _ => .nil
  | _, _, .cons h1 h2, h => by
    rw [Pw.noLs, Bool.and_eq_true] at h
    exact .cons (Dq.noL hS h1 h.1) (DqAll.noL hS h2 h.2)
end
theorem noL_ints {ns : List Int} : noLs (ns.map .int) = true := by
  induction ns with
  | nil => rfl
  | cons n ns ih => rw [List.map_cons, noLs, ih]; rfl
/-! ### expressions that change nothing -/
def ER (K : PySem.W.Frag) (te : TE) (Γ : En0) (R : V → Hp → Prop) : Prop := ∀ σ B, EnvF K B σ Γ → EvR te σ B R
abbrev EE (K : PySem.W.Frag) (te : TE) (Γ : En0) (d : PyData) : Prop := ER K te Γ fun v B => Dq K B v d
def EB (K : PySem.W.Frag) (tt : TT) (Γ : En0) (b : Bool) : Prop := ∀ σ B, EnvF K B σ Γ → EvB tt σ B b
def EA (K : PySem.W.Frag) (tA : TA) (Γ : En0) (ds : List PyData) : Prop := ∀ σ B, EnvF K B σ Γ → EvAD K tA σ B ds
def EPt (K : PySem.W.Frag) (tp : TO) (Γ : En0) (x : Option Int) : Prop := ∀ σ B, EnvF K B σ Γ → EvP tp σ B x
def EW (K : PySem.W.Frag) (wi : TI) (Γ : En0) (ds : List PyData) : Prop := ∀ σ B, EnvF K B σ Γ → WkD K wi σ B ds
def wipeE (Γ : En0) : List Nat → En0
  | [] => Γ
  | v :: vs => (wipeE Γ vs).set v none
theorem wipe_get {α : Type} {w : List (Option α) → List Nat → List (Option α)} (h0 : ∀ l, w l [] = l) (h1 : ∀ l v vs, w l (v :: vs) = (w l vs).set v none) (l : List (Option α)) : ∀ (vs : List Nat) (i : Nat), (w l vs)[i]? = if i ∈ vs then (l[i]?).map (fun _ => none) else l[i]?
  | [], i => by rw [h0, if_neg List.not_mem_nil]
  | v :: vs, i => by
    have ih := wipe_get h0 h1 l vs
    have hlen : ∀ vs, (w l vs).length = l.length := fun vs => by
      induction vs with
      | nil => rw [h0]
      | cons v vs ih => rw [h1, List.length_set, ih]
    rw [h1]
    by_cases e : v = i
    · subst e
      rw [if_pos List.mem_cons_self]
      by_cases hl : v < l.length
      · rw [List.getElem?_set_self (by rw [hlen]; exact hl), List.getElem?_eq_getElem hl]
        rfl
      · rw [List.getElem?_eq_none (by rw [List.length_set, hlen]; omega), List.getElem?_eq_none (by omega)]
        rfl
    · rw [List.getElem?_set_ne e, ih]
      by_cases m : i ∈ vs
      · rw [if_pos m, if_pos (List.mem_cons_of_mem _ m)]
      · rw [if_neg m, if_neg (fun z => (List.mem_cons.mp z).elim (fun z => e z.symm) m)]
theorem wipeE_get (Γ : En0) (vs : List Nat) (i : Nat) : (wipeE Γ vs)[i]? = if i ∈ vs then (Γ[i]?).map (fun _ => none) else Γ[i]? := wipe_get (fun _ => rfl) (fun _ _ _ => rfl) Γ vs i
theorem wipeS_get (σ : L2.St) (vs : List Nat) (i : Nat) : (wipe σ vs)[i]? = if i ∈ vs then (σ[i]?).map (fun _ => none) else σ[i]? := wipe_get (w := wipe) (fun _ => rfl) (fun _ _ _ => rfl) σ vs i
theorem wipeE_len (Γ : En0) : ∀ vs, (wipeE Γ vs).length = Γ.length
  | [] => rfl
  | v :: vs => by unfold wipeE; rw [List.length_set, wipeE_len Γ vs]
theorem wipe_back {σ : L2.St} {vs : List Nat} : ∀ {τ : L2.St}, τ.length = σ.length → (∀ i, i ∉ vs → τ[i]? = σ[i]?) → wipe τ vs = wipe σ vs := fun {τ} hl h => by
  refine List.ext_getElem? fun i => ?_
  rw [wipeS_get, wipeS_get]
  by_cases m : i ∈ vs
  · rw [if_pos m, if_pos m]
    by_cases hi : i < σ.length
    · rw [List.getElem?_eq_getElem hi, List.getElem?_eq_getElem (by omega)]
      rfl
    · rw [List.getElem?_eq_none (by omega), List.getElem?_eq_none (by omega)]
  · rw [if_neg m, if_neg m, h i m]
section
variable {F : Fr} {K : PySem.W.Frag} {S S' : List Addr} {B B' H H' : Hp} {σ : L2.St} {Γ : En0} {i j : Nat} {v : V} {d d' : PyData} {s : Shape} {ds es : List PyData} {a p : Addr} {xs : List V} {c : Nat} {te ta tb tl tc td ty : TE} {tt tu : TT} {tA : TA} {wi : TI} {g : TG} {R R' : V → Hp → Prop} {b b' : Bool} {tp th : TO} {lo hi : Option Int}
theorem SlF.mono {s : Sl} (e : Ex B B') (h : SlF K B v s) : SlF K B' v s := by
  match s, h with
  | .d x, h => exact Dq.mono e h
  | .o s ds, ⟨a, xs, h1, h2, h3⟩ => exact ⟨a, xs, h1, e _ _ h2, DqAll.mono e h3⟩
  | .b b c, h => exact h
  | .q R, ⟨h1, h2⟩ => exact ⟨h1, h1 _ _ _ e h2⟩
  | .n As N, ⟨h1, h2⟩ => exact ⟨h1, h1.mv _ _ _ _ _ e (fun a m => by
      obtain ⟨s, xs, z⟩ := h1.at_ _ _ _ h2 a m
      rw [z, e _ _ z]) h2⟩
theorem EnvF.mono (e : Ex B B') (h : EnvF K B σ Γ) : EnvF K B' σ Γ := ⟨h.len, fun i s hi => by
  obtain ⟨v, h1, h2⟩ := h.ok i s hi
  exact ⟨v, h1, h2.mono e⟩⟩
theorem EnvF.wiped (vs : List Nat) (h : EnvF K B σ Γ) : EnvF K B (wipe σ vs) (wipeE Γ vs) := ⟨by rw [wipe_length, wipeE_len]; exact h.len, fun i s hi => by
  rw [wipeE_get] at hi
  by_cases m : i ∈ vs
  · rw [if_pos m] at hi
    cases e : Γ[i]? with
    | none => rw [e] at hi; cases hi
    | some x => rw [e] at hi; cases hi
  · rw [if_neg m] at hi
    obtain ⟨v, h1, h2⟩ := h.ok i s hi
    exact ⟨v, by rw [wipeS_get, if_neg m]; exact h1, h2⟩⟩
theorem EnvF.set {s : Sl} (h : EnvF K B σ Γ) (hv : SlF K B v s) : EnvF K B (σ.set i (some v)) (Γ.set i (some s)) := ⟨by rw [List.length_set, List.length_set]; exact h.len, fun j t hj => by
  rcases get_set hj with ⟨rfl, hs, hl⟩ | ⟨hne, hj⟩
  · cases hs
    exact ⟨v, by rw [List.getElem?_set_self (by rw [h.len]; exact hl)], hv⟩
  · obtain ⟨u, h1, h2⟩ := h.ok j t hj
    exact ⟨u, by rw [List.getElem?_set_ne hne]; exact h1, h2⟩⟩
/-! #### the rules -/
theorem n_v (h : Γ[i]? = some (some (.d d))) : EE K (tVar i) Γ d := fun σ B e => by
  obtain ⟨v, h1, h2⟩ := e.ok i _ h
  exact ev_var h1 h2
/-- a name read: data, or an own list held still -/
def rdD : Sl → Option PyData
  | .d x => some x
  | .o .lst ds => some (.list ds)
  | _ => none
theorem n_rd {s : Sl} (h : Γ[i]? = some (some s)) (hd : rdD s = some d) : EE K (tVar i) Γ d := fun σ B e => by
  obtain ⟨v, h1, h2⟩ := e.ok i _ h
  match s, hd, h2 with
  | .d x, hd, h2 =>
    cases hd
    exact ev_var h1 h2
  | .o .lst ds, hd, ⟨a, xs, hv, g2, g3⟩ =>
    cases hd
    subst hv
    exact ev_var h1 (.lst (sq_of g2) g3)
/-- an own list read -/
theorem n_o (h : Γ[i]? = some (some (.o .lst ds))) : EE K (tVar i) Γ (.list ds) := fun σ B e => by
  obtain ⟨v, h1, ⟨a, xs, rfl, h2, h3⟩⟩ := e.ok i _ h
  exact ev_var h1 (.lst (sq_of h2) h3)
theorem n_q (h : Γ[i]? = some (some (.q R))) : ER K (tVar i) Γ R := fun σ B e => by
  obtain ⟨v, h1, h2, h3⟩ := e.ok i _ h
  exact ev_varR h1 h3 h2
theorem n_int {i : Int} : EE K (tC (.int i)) Γ (.int i) := fun σ B e => ev_int
theorem n_bl : EE K (tC (.bl b)) Γ (.bool b) := fun σ B e => ev_bl
theorem n_non : EE K (tC .non) Γ .none := fun σ B e => ev_non
theorem n_str {x : Str} : EE K (tC (.str x)) Γ (.str x) := fun σ B e => ev_str
theorem n_is (h : EE K te Γ d) (e : d = d') : EE K te Γ d' := by rw [← e]; exact h
theorem nb_is (h : EB K tt Γ b) (e : b = b') : EB K tt Γ b' := by rw [← e]; exact h
theorem n_add {i j : Int} (ha : EE K ta Γ (.int i)) (hb : EE K tb Γ (.int j)) : EE K (tOp (rI0 fun i j => .int (i + j)) ta tb) Γ (.int (i + j)) := fun σ B e => ev_add (ha σ B e) (hb σ B e)
theorem n_sub {i j : Int} (ha : EE K ta Γ (.int i)) (hb : EE K tb Γ (.int j)) : EE K (tOp (rI0 fun i j => .int (i - j)) ta tb) Γ (.int (i - j)) := fun σ B e => ev_sub (ha σ B e) (hb σ B e)
theorem n_mul {C : Int → Int → Prop} {i j : Int} (ha : EE K ta Γ (.int i)) (hb : EE K tb Γ (.int j)) (hc : C i j) : EE K (tOp (rI C fun i j => .int (i * j)) ta tb) Γ (.int (i * j)) := fun σ B e => ev_I (ha σ B e) (hb σ B e) hc fun _ => .int _
theorem n_mod {i j : Int} (ha : EE K ta Γ (.int i)) (hb : EE K tb Γ (.int j)) (hc : 0 < j) : EE K (tOp (rI (fun _ j => 0 < j) fun i j => .int (i % j)) ta tb) Γ (.int (i % j)) := fun σ B e => ev_mod (ha σ B e) (hb σ B e) hc
theorem n_div {C : Int → Int → Prop} {i j : Int} (ha : EE K ta Γ (.int i)) (hb : EE K tb Γ (.int j)) (hc : C i j) : EE K (tOp (rI C fun i j => .int (i / j)) ta tb) Γ (.int (i / j)) := fun σ B e => ev_div (ha σ B e) (hb σ B e) hc
theorem n_cmp {g : Int → Int → Bool} {i j : Int} (ha : EE K ta Γ (.int i)) (hb : EE K tb Γ (.int j)) : EE K (tOp (rI0 fun i j => .bl (g i j)) ta tb) Γ (.bool (g i j)) := fun σ B e => ev_cmp (ha σ B e) (hb σ B e)
theorem n_neg {i : Int} (ha : EE K ta Γ (.int i)) : EE K (tUn (rU fun i => .int (-i)) ta) Γ (.int (-i)) := fun σ B e => ev_neg (ha σ B e)
theorem n_eqI {i j : Int} (ha : EE K ta Γ (.int i)) (hb : EE K tb Γ (.int j)) : EE K (tOp rEq ta tb) Γ (.bool (decide (i = j))) := fun σ B e => ev_eqI (ha σ B e) (hb σ B e)
theorem n_neI {i j : Int} (ha : EE K ta Γ (.int i)) (hb : EE K tb Γ (.int j)) : EE K (tOp rNe ta tb) Γ (.bool (!decide (i = j))) := fun σ B e => ev_neI (ha σ B e) (hb σ B e)
theorem n_eqB {i j : Bool} (ha : EE K ta Γ (.bool i)) (hb : EE K tb Γ (.bool j)) : EE K (tOp rEq ta tb) Γ (.bool (i == j)) := fun σ B e => ev_eqB (ha σ B e) (hb σ B e)
theorem n_neB {i j : Bool} (ha : EE K ta Γ (.bool i)) (hb : EE K tb Γ (.bool j)) : EE K (tOp rNe ta tb) Γ (.bool (i != j)) := fun σ B e => ev_neB (ha σ B e) (hb σ B e)
theorem n_and (ha : EE K ta Γ (.bool b)) (hb : b = true → EE K tb Γ (.bool b')) : EE K (tAndV ta tb) Γ (.bool (b && b')) := fun σ B e => ev_and (ha σ B e) fun z => hb z σ B e
theorem n_or (ha : EE K ta Γ (.bool b)) (hb : b = false → EE K tb Γ (.bool b')) : EE K (tOrV ta tb) Γ (.bool (b || b')) := fun σ B e => ev_or (ha σ B e) fun z => hb z σ B e
theorem n_not (ha : EE K ta Γ (.bool b)) : EE K (tNotV ta) Γ (.bool (!b)) := fun σ B e => ev_not (ha σ B e)
theorem n_if (h : EB K tt Γ b) (h1 : b = true → EE K ta Γ d) (h2 : b = false → EE K tb Γ d) : EE K (tIf tt ta tb) Γ d := fun σ B e => ev_if (h σ B e) (fun z => h1 z σ B e) (fun z => h2 z σ B e) stays_dp
theorem n_ite (h : EB K tt Γ b) (h1 : b = true → EE K ta Γ d) (h2 : b = false → EE K tb Γ d') : EE K (tIf tt ta tb) Γ (bif b then d else d') := n_if h (fun z => by rw [z]; exact h1 z) (fun z => by rw [z]; exact h2 z)
theorem nb_test (h : EE K te Γ (.bool b)) : EB K (tTest te) Γ b := fun σ B e => eb_test (h σ B e)
theorem nb_B (h : EE K te Γ (.bool b)) : EB K (tB te) Γ b := fun σ B e => eb_B (h σ B e)
theorem nb_not (h : EB K tt Γ b) : EB K (tNot tt) Γ (!b) := fun σ B e => eb_not (h σ B e)
theorem nb_and (h : EB K tt Γ b) (h2 : b = true → EB K tu Γ b') : EB K (tAnd tt tu) Γ (b && b') := fun σ B e => eb_and (h σ B e) fun z => h2 z σ B e
theorem nb_or (h : EB K tt Γ b) (h2 : b = false → EB K tu Γ b') : EB K (tOr tt tu) Γ (b || b') := fun σ B e => eb_or (h σ B e) fun z => h2 z σ B e
theorem nb_yes : EB K tYes Γ true := fun σ B e => eb_yes
theorem na_nil : EA K tNil Γ [] := fun σ B e => ea_nil
theorem na_cons (h : EE K ta Γ d) (hr : EA K tA Γ ds) : EA K (tCons ta tA) Γ (d :: ds) := fun σ B e => ea_cons (h σ B e) (hr σ B e)
theorem n_tup (h : EA K tA Γ ds) (hl : ds.length ≤ 100000) : EE K (tTup tA) Γ (.tuple ds) := fun σ B e => ev_tup (h σ B e) hl
theorem n_lst (h : EA K tA Γ ds) (hl : ds.length ≤ 100000) : EE K (tLst tA) Γ (.list ds) := fun σ B e => ev_lst (h σ B e) hl
theorem n_ix {t : Bool} {i : Int} (ha : EE K ta Γ (seqD t ds)) (hb : EE K tb Γ (.int i)) (hi : atI ds i = some d) : EE K (tOp (rIx K) ta tb) Γ d := fun σ B e => ev_ix (ha σ B e) (hb σ B e) hi
theorem n_ixL {i : Int} (ha : EE K ta Γ (.list ds)) (hb : EE K tb Γ (.int i)) (hi : atI ds i = some d) : EE K (tOp (rIxL K) ta tb) Γ d := fun σ B e => ev_ixL (ha σ B e) (hb σ B e) hi
theorem n_ixT {i : Int} (ha : EE K ta Γ (.tuple ds)) (hb : EE K tb Γ (.int i)) (hi : atI ds i = some d) : EE K (tOp (rIxT K) ta tb) Γ d := fun σ B e => ev_ixT (ha σ B e) (hb σ B e) hi
theorem n_len {t : Bool} (h : EE K ta Γ (seqD t ds)) : EE K (tCB (rLenS K) (tCons ta tNil)) Γ (.int (ds.length : Nat)) := fun σ B e => ev_len (h σ B e)
theorem n_list {t : Bool} (h : EE K ta Γ (seqD t ds)) : EE K (tCB (rListS K) (tCons ta tNil)) Γ (.list ds) := fun σ B e => ev_list (h σ B e)
theorem n_tuple {t : Bool} (h : EE K ta Γ (seqD t ds)) : EE K (tCB (rTupleS K) (tCons ta tNil)) Γ (.tuple ds) := fun σ B e => ev_tuple (h σ B e)
theorem n_sum {ns : List Int} (h : EE K ta Γ (.list (ns.map .int))) : EE K (tCB (rSum K) (tCons ta tNil)) Γ (.int ns.sum) := fun σ B e => ev_sum (h σ B e)
theorem n_all {bs : List Bool} (h : EE K ta Γ (.list (bs.map .bool))) : EE K (tCB (rAll K) (tCons ta tNil)) Γ (.bool (bs.all id)) := fun σ B e => ev_all (h σ B e)
theorem n_any {bs : List Bool} (h : EE K ta Γ (.list (bs.map .bool))) : EE K (tCB (rAny K) (tCons ta tNil)) Γ (.bool (bs.any id)) := fun σ B e => ev_any (h σ B e)
theorem n_intB (h : EE K ta Γ (.bool b)) : EE K (tCB rInt1 (tCons ta tNil)) Γ (.int (if b = true then 1 else 0)) := fun σ B e => ev_intB (h σ B e)
theorem n_abs {i : Int} (h : EE K ta Γ (.int i)) : EE K (tCB rAbs1 (tCons ta tNil)) Γ (.int (if i < 0 then -i else i)) := fun σ B e => ev_abs (h σ B e)
theorem n_min2 {i j : Int} (ha : EE K ta Γ (.int i)) (hb : EE K tb Γ (.int j)) : EE K (tCB rMin2 (tCons ta (tCons tb tNil))) Γ (.int (if j < i then j else i)) := fun σ B e => ev_min2 (ha σ B e) (hb σ B e)
theorem n_max2 {i j : Int} (ha : EE K ta Γ (.int i)) (hb : EE K tb Γ (.int j)) : EE K (tCB rMax2 (tCons ta (tCons tb tNil))) Γ (.int (if j > i then j else i)) := fun σ B e => ev_max2 (ha σ B e) (hb σ B e)
theorem n_in {neg t : Bool} {i : Int} {ns : List Int} (ha : EE K ta Γ (.int i)) (hb : EE K tb Γ (seqD t (ns.map .int))) : EE K (tOp (rIn K neg) ta tb) Γ (.bool (if neg then !decide (i ∈ ns) else decide (i ∈ ns))) := fun σ B e => ev_in (ha σ B e) (hb σ B e)
theorem n_eqD (ha : EE K ta Γ d) (hb : EE K tb Γ d') (s1 : SeqAt.shaped d = true) (s2 : SeqAt.shaped d' = true) : EE K (tOp (rEqD K) ta tb) Γ (.bool (PyData.eqv d d')) := fun σ B e => ev_eqD (ha σ B e) (hb σ B e) s1 s2
theorem n_neD (ha : EE K ta Γ d) (hb : EE K tb Γ d') (s1 : SeqAt.shaped d = true) (s2 : SeqAt.shaped d' = true) : EE K (tOp (rNeD K) ta tb) Γ (.bool (!PyData.eqv d d')) := fun σ B e => ev_neD (ha σ B e) (hb σ B e) s1 s2
theorem n_isi {T : String} (h : EE K ta Γ d) (hb : kitB (tyN d) T = some b) : EE K (tCB (rIsi K) (tCons ta (tCons (tC (.ty T)) tNil))) Γ (.bool b) := fun σ B e => ev_isi (h σ B e) hb
theorem n_isi2 {T1 T2 : String} {b1 b2 : Bool} (h : EE K ta Γ d) (h1 : kitB (tyN d) T1 = some b1) (h2 : kitB (tyN d) T2 = some b2) : EE K (tCB (rIsiT K) (tCons ta (tCons (tTup (tCons (tC (.ty T1)) (tCons (tC (.ty T2)) tNil))) tNil))) Γ (.bool (b1 || b2)) := fun σ B e => ev_isi2 (h σ B e) h1 h2
theorem n_call {f : List PyData → PyData → Prop} {E : XK} (h : EA K tA Γ ds) (hf : f ds d) : EE K (tCall (spD K f) [] E tA) Γ d := fun σ B e => ev_call (h σ B e) hf
theorem n_chain {g g' : Int → Int → Bool} {i j k : Int} (ha : EE K ta Γ (.int i)) (hb : EE K tb Γ (.int j)) (hc : EE K tc Γ (.int k)) : EE K (tChain (rI0 fun i j => .bl (g i j)) (rI0 fun i j => .bl (g' i j)) ta tb tc) Γ (.bool (g i j && g' j k)) := fun σ B e => ev_chain (ha σ B e) (hb σ B e) (hc σ B e)
theorem np_none : EPt K tNoPart Γ none := fun σ B e => ep_none
theorem np_some {i : Int} (h : EE K ta Γ (.int i)) : EPt K (tPart ta) Γ (some i) := fun σ B e => ep_some (h σ B e)
theorem n_slL {tl th : TO} (ha : EE K ta Γ (.list ds)) (hl : EPt K tl Γ lo) (hh : EPt K th Γ hi) : EE K (tSl (rSlL K) ta tl th) Γ (.list (cutA ds lo hi)) := fun σ B e => ev_slL (ha σ B e) (hl σ B e) (hh σ B e)
theorem n_slA {tl th : TO} (ha : EE K ta Γ (.tuple ds)) (hl : EPt K tl Γ lo) (hh : EPt K th Γ hi) : EE K (tSl (rSlA K) ta tl th) Γ (.tuple (cutA ds lo hi)) := fun σ B e => ev_slA (ha σ B e) (hl σ B e) (hh σ B e)
theorem n_pair {t : Tie} (ha : EE K ta Γ (tieD t)) : EE K (tSl (rSlT K) ta tNoPart (tPart (tC (.int 2)))) Γ (pairD (t.1, t.2.1)) := fun σ B e => ev_pair (ha σ B e)
theorem n_inD (ha : EE K ta Γ d) (hb : EE K tb Γ (.list ds)) (s1 : SeqAt.shaped d = true) (s2 : SeqAt.shaped (.list ds) = true) : EE K (tOp (rInD K) ta tb) Γ (.bool (ds.any fun z => PyData.eqv z d)) := fun σ B e => ev_inD (ha σ B e) (hb σ B e) s1 s2
theorem n_ninD (ha : EE K ta Γ d) (hb : EE K tb Γ (.list ds)) (s1 : SeqAt.shaped d = true) (s2 : SeqAt.shaped (.list ds) = true) : EE K (tOp (rNotInD K) ta tb) Γ (.bool (!ds.any fun z => PyData.eqv z d)) := fun σ B e => ev_ninD (ha σ B e) (hb σ B e) s1 s2
theorem n_catA (ha : EE K ta Γ (.tuple ds)) (hb : EE K tb Γ (.tuple es)) (hl : ds.length + es.length ≤ 100000) : EE K (tOp (rCatA K) ta tb) Γ (.tuple (ds ++ es)) := fun σ B e => ev_catA (ha σ B e) (hb σ B e) hl
theorem n_dset {ks : List Int} {f : Int → PyData} (h : EE K ta Γ (.list (ks.map fun k => .tuple [.int k, f k]))) : ER K (tCB (rDictP K) (tCons ta tNil)) Γ (DSet ks) := fun σ B e => ev_dset (h σ B e)
theorem n_din {i : Int} {ks : List Int} (ha : EE K ta Γ (.int i)) (hd : ER K td Γ (DSet ks)) : EE K (tDIn ta td) Γ (.bool (decide (i ∈ ks))) := fun σ B e => ev_din (ha σ B e) (hd σ B e)
theorem n_dnin {i : Int} {ks : List Int} (ha : EE K ta Γ (.int i)) (hd : ER K td Γ (DSet ks)) : EE K (tDNotIn ta td) Γ (.bool (!decide (i ∈ ks))) := fun σ B e => ev_dnin (ha σ B e) (hd σ B e)
theorem n_dpairs {ks : List (Int × Int)} {f : Int × Int → PyData} (h : EE K ta Γ (.list (ks.map fun k => .tuple [pairD k, f k]))) : ER K (tCB (rDictT K) (tCons ta tNil)) Γ (DPairs ks) := fun σ B e => ev_dpairs (h σ B e)
theorem n_tin {x y : Int} {ks : List (Int × Int)} (ha : EE K ta Γ (pairD (x, y))) (hd : ER K td Γ (DPairs ks)) : EE K (tDIn ta td) Γ (.bool (decide ((x, y) ∈ ks))) := fun σ B e => ev_tin (ha σ B e) (hd σ B e)
theorem n_tnin {x y : Int} {ks : List (Int × Int)} (ha : EE K ta Γ (pairD (x, y))) (hd : ER K td Γ (DPairs ks)) : EE K (tDNotIn ta td) Γ (.bool (!decide ((x, y) ∈ ks))) := fun σ B e => ev_tnin (ha σ B e) (hd σ B e)
theorem n_lenSet {ns ds : List Int} (h : EE K te Γ (.list (ns.map .int))) (hl : ns.length ≤ 4000) (hd : ds.Nodup) (hm : ∀ k, k ∈ ds ↔ k ∈ ns) : EE K (tLenSet K te) Γ (.int (ds.length : Nat)) := fun σ B e => ev_lenSet (h σ B e) hl hd hm
/-! #### walks -/
theorem nw_list (h : EE K tl Γ (.list ds)) : EW K (iList K tl) Γ ds := fun σ B e => wk_list (h σ B e)
theorem nw_tup (h : EE K tl Γ (.tuple ds)) : EW K (iTup K tl) Γ ds := fun σ B e => wk_tup (h σ B e)
theorem nw_seq {t : Bool} (h : EE K tl Γ (seqD t ds)) : EW K (fun σ H R => iList K tl σ H R ∨ iTup K tl σ H R) Γ ds := fun σ B e => wk_seq (h σ B e)
theorem nw_rng1 {j : Int} (h : EA K tA Γ [.int j]) (hj : -100000 ≤ j ∧ j ≤ 100000) : EW K (iRng1 tA) Γ ((rngI 0 j.toNat).map .int) := fun σ B e => wk_rng1 (h σ B e) hj
theorem nw_rng2 {i j : Int} (h : EA K tA Γ [.int i, .int j]) (hi : -100000 ≤ i ∧ i ≤ 100000) (hj : -100000 ≤ j ∧ j ≤ 100000) : EW K (iRng2 tA) Γ ((rngI i (j - i).toNat).map .int) := fun σ B e => wk_rng2 (h σ B e) hi hj
theorem nw_is (h : EW K wi Γ ds) (e : ds = es) : EW K wi Γ es := by rw [← e]; exact h
/-! #### comprehensions -/
def NTurn (K : PySem.W.Frag) (g : TG) (tt : TT) (te : TE) (Γ : En0) (vs : List Nat) (d : PyData) (fa : Bool) (ea : PyData) : Prop := ∀ σ B, EnvF K B σ Γ → TurnLc K g tt te σ vs B d fa ea
theorem n_lc {α : Type} (l : List α) (enc : α → PyData) (f : α → Bool) (e : α → PyData) {vs : List Nat} (hk : EW K wi Γ (l.map enc)) (hl : l.length ≤ 40000) (turn : ∀ a ∈ l, NTurn K g tt te Γ vs (enc a) (f a) (e a)) :
    EE K (tLc wi g tt te vs) Γ (.list ((l.filter f).map e)) := fun σ B h => ev_lc l enc f e (hk σ B h) hl fun a ha => turn a ha σ B h
/-- all taken -/
theorem n_lc1 {α : Type} (l : List α) (enc : α → PyData) (e : α → PyData) {vs : List Nat} (hk : EW K wi Γ (l.map enc)) (hl : l.length ≤ 40000) (turn : ∀ a ∈ l, NTurn K g tYes te Γ vs (enc a) true (e a)) :
    EE K (tLc wi g tYes te vs) Γ (.list (l.map e)) := n_is (n_lc l enc (fun _ => true) e hk hl turn) (by rw [List.filter_eq_self.mpr fun _ _ => rfl])
/-- a target takes a datum: the names' worth then -/
def GN (K : PySem.W.Frag) (g : TG) (vs : List Nat) (Γ : En0) (d : PyData) (Γ2 : En0) : Prop := ∀ S B H σ x, Wd S B H → EnvF K B σ Γ → Dq K B x d → ∀ Q : L2.St → Hp → Prop, (∀ σ' : L2.St, EnvF K B σ' Γ2 → (∀ i, i ∉ vs → σ'[i]? = σ[i]?) → σ'.length = σ.length → Q σ' H) → g x σ H Q
def GNs (K : PySem.W.Frag) (g : TGs) (vs : List Nat) (Γ : En0) (ds : List PyData) (Γ2 : En0) : Prop := ∀ S B H σ xs, Wd S B H → EnvF K B σ Γ → DqAll K B xs ds → ∀ Q : L2.St → Hp → Prop, (∀ σ' : L2.St, EnvF K B σ' Γ2 → (∀ i, i ∉ vs → σ'[i]? = σ[i]?) → σ'.length = σ.length → Q σ' H) → g xs σ H Q
theorem gn_1 {j : Nat} {vs : List Nat} (hj : j ∈ vs) : GN K (gName j) vs Γ d (Γ.set j (some (.d d))) := fun S B H σ x w e h Q q => q _ (e.set (s := .d d) h) (fun i m => List.getElem?_set_ne fun (z : j = i) => m (z ▸ hj)) (List.length_set ..)
theorem gns_nil {vs : List Nat} : GNs K gNil vs Γ [] Γ := fun S B H σ xs w e h Q q => by cases h; exact ⟨rfl, q _ e (fun _ _ => rfl) rfl⟩
theorem gns_cons {vs : List Nat} {gs : TGs} {Γ1 Γ2 : En0} (h1 : GN K g vs Γ d Γ1) (h2 : GNs K gs vs Γ1 ds Γ2) : GNs K (gCons g gs) vs Γ (d :: ds) Γ2 := fun S B H σ xs w e h Q q => by
  cases h with
  | cons a r => exact ⟨_, _, rfl, h1 S B H σ _ w e a _ fun σ1 e1 k1 l1 => h2 S B H σ1 _ w e1 r _ fun σ2 e2 k2 l2 => q σ2 e2 (fun i m => (k2 i m).trans (k1 i m)) (l2.trans l1)⟩
theorem gn_tup {vs : List Nat} {gs : TGs} {n : Nat} {Γ2 : En0} (hn : ds.length = n) (h2 : GNs K gs vs Γ ds Γ2) : GN K (gTup K n gs) vs Γ (.tuple ds) Γ2 := fun S B H σ x w e h Q q => by
  cases h with
  | tup hs hd => exact ⟨_, _, rfl, st_of (w.ex _ _ hs), by rw [DqAll.length hd]; exact hn, h2 S B H σ _ w e hd Q q⟩
theorem nt {vs : List Nat} {fa : Bool} {ea : PyData} {Γ2 : En0} (hg : GN K g vs (wipeE Γ vs) d Γ2) (ht : EB K tt Γ2 fa) (he : fa = true → EE K te Γ2 ea) : NTurn K g tt te Γ vs d fa ea := fun σ B h x S B' H' eB w hx Qy Qn hy hn =>
  hg S B' H' _ x w ((h.wiped vs).mono eB) hx _ fun σ' e k l => ⟨wipe_back (l.trans (wipe_length ..)) fun i m => by rw [k i m, wipeS_get, if_neg m], (ht σ' B' e).bind w fun B2 H2 e2 eB2 w2 => by
    cases fa with
    | true => exact ((he rfl σ' B' e).mono eB2).bind w2 fun y B3 H3 e3 eB3 w3 r => hy rfl y B3 H3 (e2.trans e3) (eB2.trans eB3) w3 r
    | false => exact hn rfl B2 H2 e2 eB2 w2⟩
end
end Pw

/-! ## PwTr -/
namespace Pw
open PySem L2 Evl
/-! ### trees of own things: lists of lists, dicts of lists, objects -/
/-- data; an own list, dict or object with what stands in it; a tuple with own things in it -/
inductive OD where
  | d (x : PyData) | c (s : Shape) (ds : List OD) | t (ds : List OD)
/-- as many as there are -/
def okS : Shape → Nat → Prop
  | .lst, _ => True
  | .dK ks, n => ks.length = n
  | .dT ks, n => ks.length = n
  | .ins _ _ fn, n => fn.length = n
/-- what stands in a thing -/
def kids : HO → List V
  | .lst xs => xs
  | .tup xs => xs
  | .dK kvs => kvs.map (·.2)
  | .dT kvs => kvs.map (·.2)
  | .ins _ _ fs => fs.map (·.2)
  | _ => []
theorem zipT_snd {α β : Type} : ∀ {ks : List α} {xs : List β}, ks.length = xs.length → (ks.zip xs).map (·.2) = xs
  | [], [], _ => rfl
  | [], _ :: _, h => by simp at h
  | _ :: _, [], h => by simp at h
  | k :: ks, x :: xs, h => by
    show x :: _ = x :: xs
    congr 1
    exact zipT_snd (by simpa using h)
theorem zipT_fst {α β : Type} : ∀ {ks : List α} {xs : List β}, ks.length = xs.length → (ks.zip xs).map (·.1) = ks
  | [], [], _ => rfl
  | [], _ :: _, h => by simp at h
  | _ :: _, [], h => by simp at h
  | k :: ks, x :: xs, h => by
    show k :: _ = k :: ks
    congr 1
    exact zipT_fst (by simpa using h)
theorem kids_ho {s : Shape} {xs : List V} (h : okS s xs.length) : kids (ho s xs) = xs := by
  match s, h with
  | .lst, _ => rfl
  | .dK ks, h => exact zipT_snd h
  | .dT ks, h => exact zipT_snd h
  | .ins _ _ fn, h => exact zipT_snd h
mutual
inductive OTr (K : PySem.W.Frag) (B H : Hp) : V → OD → List Addr → Prop
  | d {v : V} {x : PyData} : Dq K B v x → OTr K B H v (.d x) []
  | c {a : Addr} {s : Shape} {xs : List V} {ds : List OD} {As : List Addr} : H a = some (ho s xs) → okS s xs.length → OTrs K B H xs ds As → a ∉ As → OTr K B H (.ref a) (.c s ds) (a :: As)
  | t {a : Addr} {xs : List V} {ds : List OD} {As : List Addr} : B a = some (.tup xs) → OTrs K B H xs ds As → OTr K B H (.ref a) (.t ds) As
inductive OTrs (K : PySem.W.Frag) (B H : Hp) : List V → List OD → List Addr → Prop
  | nil : OTrs K B H [] [] []
  | cons {v : V} {o : OD} {vs : List V} {os : List OD} {A1 A2 : List Addr} : OTr K B H v o A1 → OTrs K B H vs os A2 → (∀ a ∈ A1, a ∉ A2) → OTrs K B H (v :: vs) (o :: os) (A1 ++ A2)
end
section
variable {K : PySem.W.Frag} {B B' H H' : Hp} {S S' : List Addr} {σ : L2.St} {Γ : En0} {v u w : V} {o : OD} {xs vs : List V} {os : List OD} {As A1 : List Addr} {i j : Nat}
mutual
theorem OTr.mv' (eB : Ex B B') : ∀ {v : V} {o : OD} {As : List Addr}, OTr K B H v o As → (∀ a ∈ As, H' a = H a) → OTr K B' H' v o As
  | _, _, _, .d x, _ => .d (Dq.mono eB x)
  | _, _, _, .c h1 h2 h3 h4, h => .c ((h _ List.mem_cons_self).trans h1) h2 (OTrs.mv' eB h3 fun b m => h b (List.mem_cons_of_mem _ m)) h4
  | _, _, _, .t h1 h2, h => .t (eB _ _ h1) (OTrs.mv' eB h2 h)
theorem OTrs.mv' (eB : Ex B B') : ∀ {vs : List V} {os : List OD} {As : List Addr}, OTrs K B H vs os As → (∀ a ∈ As, H' a = H a) → OTrs K B' H' vs os As
  | _, _, _, .nil, _ => .nil
  | _, _, _, .cons h1 h2 h3, h => .cons (OTr.mv' eB h1 fun a m => h a (List.mem_append_left _ m)) (OTrs.mv' eB h2 fun a m => h a (List.mem_append_right _ m)) h3
end
theorem OTr.mv (eB : Ex B B') (h : ∀ a ∈ As, H' a = H a) (t : OTr K B H v o As) : OTr K B' H' v o As := t.mv' eB h
theorem OTrs.mv (eB : Ex B B') (h : ∀ a ∈ As, H' a = H a) (t : OTrs K B H vs os As) : OTrs K B' H' vs os As := t.mv' eB h
mutual
theorem OTr.at_ : ∀ {v : V} {o : OD} {As : List Addr}, OTr K B H v o As → ∀ a ∈ As, ∃ s xs, H a = some (ho s xs)
  | _, _, _, .d _, a, m => by cases m
  | _, _, _, .c h1 h2 h3 h4, a, m => by
    rcases List.mem_cons.mp m with rfl | m
    · exact ⟨_, _, h1⟩
    · exact OTrs.at_ h3 a m
  | _, _, _, .t h1 h2, a, m => OTrs.at_ h2 a m
theorem OTrs.at_ : ∀ {vs : List V} {os : List OD} {As : List Addr}, OTrs K B H vs os As → ∀ a ∈ As, ∃ s xs, H a = some (ho s xs)
  | _, _, _, .nil, a, m => by cases m
  | _, _, _, .cons h1 h2 h3, a, m => by
    rcases List.mem_append.mp m with m | m
    · exact OTr.at_ h1 a m
    · exact OTrs.at_ h2 a m
end
theorem OTrs.len : ∀ {vs : List V} {os : List OD} {As : List Addr}, OTrs K B H vs os As → vs.length = os.length
  | _, _, _, .nil => rfl
  | _, _, _, .cons _ h2 _ => by rw [List.length_cons, List.length_cons, OTrs.len h2]
theorem OTrs.ofD : ∀ {vs : List V} {ds : List PyData}, DqAll K B vs ds → OTrs K B H vs (ds.map .d) []
  | _, _, .nil => .nil
  | _, _, .cons h1 h2 => by
    have := OTrs.cons (OTr.d (H := H) h1) (OTrs.ofD h2) (fun a m => by cases m)
    exact this
theorem OTrs.toD : ∀ {vs : List V} {ds : List PyData} {As : List Addr}, OTrs K B H vs (ds.map .d) As → DqAll K B vs ds ∧ As = []
  | _, [], _, h => by
    cases h
    exact ⟨.nil, rfl⟩
  | _, d :: ds, _, h => by
    cases h with
    | cons h1 h2 h3 =>
    cases h1 with
    | d h1 =>
    obtain ⟨g1, rfl⟩ := OTrs.toD h2
    exact ⟨.cons h1 g1, rfl⟩
/-! as data, in what is frozen -/
mutual
def OD.asD : OD → Option PyData
  | .d x => some x
  | .c .lst ds => (asDs ds).map .list
  | .c _ _ => none
  | .t ds => (asDs ds).map .tuple
def asDs : List OD → Option (List PyData)
  | [] => some []
  | o :: os => (o.asD).bind fun d => (asDs os).map (d :: ·)
end
mutual
theorem OTr.data : ∀ {v : V} {o : OD} {As : List Addr} {x : PyData}, OTr K B B v o As → o.asD = some x → Dq K B v x
  | _, _, _, x, .d h, e => by
    unfold OD.asD at e
    cases e
    exact h
  | _, .c .lst ds, _, x, .c h1 h2 h3 h4, e => by
    unfold OD.asD at e
    obtain ⟨ys, hy, rfl⟩ := Option.map_eq_some_iff.mp e
    exact .lst (sq_of h1) (OTrs.data h3 hy)
  | _, .c (.dK _) _, _, x, .c h1 h2 h3 h4, e => by unfold OD.asD at e; cases e
  | _, .c (.dT _) _, _, x, .c h1 h2 h3 h4, e => by unfold OD.asD at e; cases e
  | _, .c (.ins _ _ _) _, _, x, .c h1 h2 h3 h4, e => by unfold OD.asD at e; cases e
  | _, _, _, x, .t h1 h2, e => by
    unfold OD.asD at e
    obtain ⟨ys, hy, rfl⟩ := Option.map_eq_some_iff.mp e
    exact .tup h1 (OTrs.data h2 hy)
theorem OTrs.data : ∀ {vs : List V} {os : List OD} {As : List Addr} {xs : List PyData}, OTrs K B B vs os As → asDs os = some xs → DqAll K B vs xs
  | _, _, _, xs, .nil, e => by
    unfold asDs at e
    cases e
    exact .nil
  | _, _, _, xs, .cons h1 h2 h3, e => by
    unfold asDs at e
    obtain ⟨d, hd, e⟩ := Option.bind_eq_some_iff.mp e
    obtain ⟨ds, hds, rfl⟩ := Option.map_eq_some_iff.mp e
    exact .cons (OTr.data h1 hd) (OTrs.data h2 hds)
end
theorem asDs_d : ∀ (ds : List PyData), asDs (ds.map .d) = some ds
  | [] => by unfold asDs; rfl
  | d :: ds => by
    show asDs (OD.d d :: ds.map .d) = _
    unfold asDs OD.asD
    rw [asDs_d ds]
    rfl
/-! #### places within -/
def OD.get : OD → List Nat → Option OD
  | o, [] => some o
  | .c _ ds, j :: p => (ds[j]?).bind fun o => o.get p
  | .t ds, j :: p => (ds[j]?).bind fun o => o.get p
  | .d _, _ :: _ => none
def OD.put : OD → List Nat → OD → OD
  | _, [], x => x
  | .c s ds, j :: p, x => .c s (match ds[j]? with | some o => ds.set j (o.put p x) | none => ds)
  | .t ds, j :: p, x => .t (match ds[j]? with | some o => ds.set j (o.put p x) | none => ds)
  | .d y, _ :: _, _ => .d y
/-- the value at a place -/
def AtP (H : Hp) : V → List Nat → V → Prop
  | v, [], u => u = v
  | v, j :: p, u => ∃ a o w, v = .ref a ∧ H a = some o ∧ (kids o)[j]? = some w ∧ AtP H w p u
theorem AtP.mono (e : Ex H H') : ∀ {p : List Nat} {v u : V}, AtP H v p u → AtP H' v p u
  | [], _, _, h => h
  | j :: p, _, _, ⟨a, o, w, h1, h2, h3, h4⟩ => ⟨a, o, w, h1, e _ _ h2, h3, h4.mono e⟩
theorem AtP.snoc : ∀ {p : List Nat} {v w : V} {j : Nat} {a : Addr} {o : HO}, AtP H v p (.ref a) → H a = some o → (kids o)[j]? = some w → AtP H v (p ++ [j]) w
  | [], _, _, _, a, o, h, h1, h2 => by
    cases h
    exact ⟨a, o, _, rfl, h1, h2, rfl⟩
  | k :: p, _, _, _, a, o, ⟨a', o', w', g1, g2, g3, g4⟩, h1, h2 => ⟨a', o', w', g1, g2, g3, AtP.snoc g4 h1 h2⟩
/-- one of a row, and the row with another one in its stead -/
theorem OTrs.focus : ∀ {xs : List V} {os : List OD} {As : List Addr}, OTrs K B H xs os As → ∀ {j : Nat} {w : V} {o : OD}, xs[j]? = some w → os[j]? = some o → ∃ A1, OTr K B H w o A1 ∧ (∀ a ∈ A1, a ∈ As) ∧
    ∀ (w' : V) (o' : OD) (A' : List Addr) (B' H' : Hp), Ex B B' → (∀ a ∈ As, a ∉ A1 → H' a = H a) → OTr K B' H' w' o' A' → (∀ a ∈ A', a ∈ A1 ∨ a ∉ As) → ∃ As', OTrs K B' H' (xs.set j w') (os.set j o') As' ∧ ∀ a ∈ As', (a ∈ As ∧ a ∉ A1) ∨ a ∈ A'
  | _, _, _, .nil, j, w, o, h1, h2 => by simp at h1
  | _, _, _, .cons (A1 := A1) (A2 := A2) g1 g2 g3, 0, w, o, h1, h2 => by
    simp only [List.getElem?_cons_zero, Option.some.injEq] at h1 h2
    subst h1 h2
    refine ⟨A1, g1, fun a m => List.mem_append_left _ m, fun w' o' A' B' H' eB hH g hA => ⟨A' ++ A2, .cons g (OTrs.mv eB (fun a m => hH a (List.mem_append_right _ m) fun z => g3 a z m) g2) fun a m z => ?_, fun a m => ?_⟩⟩
    · rcases hA a m with h | h
      · exact g3 a h z
      · exact h (List.mem_append_right _ z)
    · rcases List.mem_append.mp m with m | m
      · exact .inr m
      · exact .inl ⟨List.mem_append_right _ m, fun z => g3 a z m⟩
  | _, _, _, .cons (A1 := A1) (A2 := A2) g1 g2 g3, j + 1, w, o, h1, h2 => by
    simp only [List.getElem?_cons_succ] at h1 h2
    obtain ⟨A3, f1, f2, f3⟩ := OTrs.focus g2 h1 h2
    refine ⟨A3, f1, fun a m => List.mem_append_right _ (f2 a m), fun w' o' A' B' H' eB hH g hA => ?_⟩
    obtain ⟨As', k1, k2⟩ := f3 w' o' A' B' H' eB (fun a m n => hH a (List.mem_append_right _ m) n) g fun a m => (hA a m).imp id fun z y => z (List.mem_append_right _ y)
    refine ⟨A1 ++ As', .cons (OTr.mv eB (fun a m => hH a (List.mem_append_left _ m) fun z => g3 a m (f2 a z)) g1) k1 fun a m z => ?_, fun a m => ?_⟩
    · rcases k2 a z with ⟨h, _⟩ | h
      · exact g3 a m h
      · rcases hA a h with h | h
        · exact g3 a m (f2 a h)
        · exact h (List.mem_append_left _ m)
    · rcases List.mem_append.mp m with m | m
      · exact .inl ⟨List.mem_append_left _ m, fun z => g3 a m (f2 a z)⟩
      · exact (k2 a m).imp (fun ⟨y, z⟩ => ⟨List.mem_append_right _ y, z⟩) id
theorem OTrs.snoc : ∀ {xs : List V} {os : List OD} {As : List Addr}, OTrs K B H xs os As → ∀ {w : V} {o : OD} {A' : List Addr}, OTr K B H w o A' → (∀ a ∈ A', a ∉ As) → OTrs K B H (xs ++ [w]) (os ++ [o]) (As ++ A')
  | _, _, _, .nil, w, o, A', g, hA => by
    have := OTrs.cons g OTrs.nil fun a _ z => by cases z
    rw [List.append_nil] at this
    exact this
  | _, _, _, .cons (A1 := A1) (A2 := A2) g1 g2 g3, w, o, A', g, hA => by
    rw [List.append_assoc]
    refine .cons g1 (OTrs.snoc g2 g fun a m z => hA a m (List.mem_append_right _ z)) fun a m z => ?_
    rcases List.mem_append.mp z with z | z
    · exact g3 a m z
    · exact hA a z (List.mem_append_left _ m)
/-- a place within, and the thing with another one there; the value at the place stays -/
theorem OTr.focus (eBH : Ex B H) : ∀ {p : List Nat} {v : V} {o : OD} {As : List Addr}, OTr K B H v o As → ∀ {u : V} {sub : OD}, AtP H v p u → o.get p = some sub → ∃ A1, OTr K B H u sub A1 ∧ (∀ a ∈ A1, a ∈ As) ∧
    ∀ (o' : OD) (A' : List Addr) (B' H' : Hp), Ex B B' → (∀ a ∈ As, a ∉ A1 → H' a = H a) → OTr K B' H' u o' A' → (∀ a ∈ A', a ∈ A1 ∨ a ∉ As) → ∃ As', OTr K B' H' v (o.put p o') As' ∧ ∀ a ∈ As', (a ∈ As ∧ a ∉ A1) ∨ a ∈ A'
  | [], v, o, As, h, u, sub, hp, hg => by
    cases hp
    unfold OD.get at hg
    cases hg
    refine ⟨As, h, fun a m => m, fun o' A' B' H' eB hH g hA => ⟨A', ?_, fun a m => .inr m⟩⟩
    unfold OD.put
    exact g
  | j :: p, v, o, As, h, u, sub, ⟨a, ob, w, e1, e2, e3, e4⟩, hg => by
    match o, h, hg with
    | .d x, _, hg => unfold OD.get at hg; cases hg
    | .c s ds, h, hg =>
      cases h with
      | @c a0 _ xs _ A0 h1 h2 h3 h4 =>
      cases e1
      rw [h1] at e2
      cases e2
      rw [kids_ho h2] at e3
      unfold OD.get at hg
      obtain ⟨o1, g1, g2⟩ := Option.bind_eq_some_iff.mp hg
      obtain ⟨A2, f1, f2, f3⟩ := OTrs.focus h3 e3 g1
      obtain ⟨A3, k1, k2, k3⟩ := OTr.focus eBH f1 e4 g2
      have hn3 : a ∉ A3 := fun z => h4 (f2 _ (k2 _ z))
      refine ⟨A3, k1, fun b m => List.mem_cons_of_mem _ (f2 b (k2 b m)), fun o' A' B' H' eB hH g hA => ?_⟩
      obtain ⟨A4, m1, m2⟩ := k3 o' A' B' H' eB (fun b m n => hH b (List.mem_cons_of_mem _ (f2 b m)) n) g fun b m => (hA b m).imp id fun z y => z (List.mem_cons_of_mem _ (f2 b y))
      obtain ⟨A5, q1, q2⟩ := f3 w _ A4 B' H' eB (fun b m n => hH b (List.mem_cons_of_mem _ m) fun z => n (k2 b z)) m1 fun b m => by
        rcases m2 b m with ⟨y, _⟩ | y
        · exact .inl y
        · rcases hA b y with z | z
          · exact .inl (k2 b z)
          · exact .inr fun x => z (List.mem_cons_of_mem _ x)
      have hin : ∀ b ∈ A5, (b ∈ A0 ∧ b ∉ A3) ∨ b ∈ A' := fun b m => by
        rcases q2 b m with ⟨y, z⟩ | y
        · exact .inl ⟨y, fun x => z (k2 b x)⟩
        · rcases m2 b y with ⟨x, z⟩ | x
          · exact .inl ⟨f2 b x, z⟩
          · exact .inr x
      have hset : xs.set j w = xs := by
        refine List.ext_getElem? fun k => ?_
        by_cases e : j = k
        · subst e
          rw [List.getElem?_set_self (List.getElem?_eq_some_iff.mp e3).1, e3]
        · rw [List.getElem?_set_ne e]
      rw [hset] at q1
      refine ⟨a :: A5, ?_, fun b m => ?_⟩
      · unfold OD.put
        rw [g1]
        refine .c ((hH a List.mem_cons_self hn3).trans h1) h2 q1 fun z => ?_
        rcases hin _ z with ⟨y, _⟩ | y
        · exact h4 y
        · rcases hA _ y with x | x
          · exact hn3 x
          · exact x List.mem_cons_self
      · rcases List.mem_cons.mp m with rfl | m
        · exact .inl ⟨List.mem_cons_self, hn3⟩
        · exact (hin b m).imp (fun ⟨y, z⟩ => ⟨List.mem_cons_of_mem _ y, z⟩) id
    | .t ds, h, hg =>
      cases h with
      | @t a0 xs _ _ h1 h3 =>
      cases e1
      rw [eBH _ _ h1] at e2
      cases e2
      have e3 : xs[j]? = some w := e3
      unfold OD.get at hg
      obtain ⟨o1, g1, g2⟩ := Option.bind_eq_some_iff.mp hg
      obtain ⟨A2, f1, f2, f3⟩ := OTrs.focus h3 e3 g1
      obtain ⟨A3, k1, k2, k3⟩ := OTr.focus eBH f1 e4 g2
      refine ⟨A3, k1, fun b m => f2 b (k2 b m), fun o' A' B' H' eB hH g hA => ?_⟩
      obtain ⟨A4, m1, m2⟩ := k3 o' A' B' H' eB (fun b m n => hH b (f2 b m) n) g fun b m => (hA b m).imp id fun z y => z (f2 b y)
      obtain ⟨A5, q1, q2⟩ := f3 w _ A4 B' H' eB (fun b m n => hH b m fun z => n (k2 b z)) m1 fun b m => by
        rcases m2 b m with ⟨y, _⟩ | y
        · exact .inl y
        · rcases hA b y with z | z
          · exact .inl (k2 b z)
          · exact .inr z
      have hset : xs.set j w = xs := by
        refine List.ext_getElem? fun k => ?_
        by_cases e : j = k
        · subst e
          rw [List.getElem?_set_self (List.getElem?_eq_some_iff.mp e3).1, e3]
        · rw [List.getElem?_set_ne e]
      rw [hset] at q1
      refine ⟨A5, ?_, fun b m => ?_⟩
      · unfold OD.put
        rw [g1]
        exact .t (eB _ _ h1) q1
      · rcases q2 b m with ⟨y, z⟩ | y
        · exact .inl ⟨y, fun x => z (k2 b x)⟩
        · rcases m2 b y with ⟨x, z⟩ | x
          · exact .inl ⟨f2 b x, z⟩
          · exact .inr x
end
/-- an own tree as a name's worth; x: the value, where it is known -/
abbrev nX (K : PySem.W.Frag) (x : Option V) (o : OD) (As : List Addr) : Sl := .n As fun v B H => OTr K B H v o As ∧ ∀ u, x = some u → v = u
abbrev nT (K : PySem.W.Frag) (o : OD) (As : List Addr) : Sl := nX K none o As
theorem reg_nX {K : PySem.W.Frag} {x : Option V} {o : OD} {As : List Addr} : Reg As (fun v B H => OTr K B H v o As ∧ ∀ u, x = some u → v = u) := ⟨fun v B B' H H' eB h t => ⟨t.1.mv eB h, t.2⟩, fun v B H t => t.1.at_⟩
end Pw

/-! ## PwM -/
namespace Pw
open PySem L2 Evl

/-! ### statements, no places in sight -/
/-- where a block may end: with which names' worth, with which value -/
structure Po where
  nx : En0 → Prop
  rt : PyData → En0 → Prop
  bk : En0 → Prop := fun _ => False
  ct : En0 → Prop := fun _ => False
  /-- a thing of one's own told -/
  ro : OD → En0 → Prop := fun _ _ => False
structure Post (F : Fr) (B : Hp) (P : Po) (D : Ends) : Prop where
  nx : ∀ S' B' H' σ' Γ', P.nx Γ' → En F S' B' H' σ' Γ' → Ex B B' → D.nx σ' H'
  rt : ∀ S' B' H' σ' Γ' v d, P.rt d Γ' → En F S' B' H' σ' Γ' → Ex B B' → Dq F.K B' v d → D.rt v H'
  bk : ∀ S' B' H' σ' Γ', P.bk Γ' → En F S' B' H' σ' Γ' → Ex B B' → D.bk σ' H'
  ct : ∀ S' B' H' σ' Γ', P.ct Γ' → En F S' B' H' σ' Γ' → Ex B B' → D.ct σ' H'
  ro : ∀ S' B' H' σ' Γ' v o A, P.ro o Γ' → En F S' B' H' σ' Γ' → Ex B B' → OTr F.K B' H' v o A → (∀ a ∈ A, a ∈ S') → (∀ a ∈ A, a ∈ F.bs ∨ F.H a = none) → (∀ a ∈ A, ∀ (j : Nat) (s : Option Sl), Γ'[j]? = some s → ¬ ownA σ'[j]? s a) → D.rt v H'
def SX (F : Fr) (ts : TS) (Γ : En0) (P : Po) : Prop := ∀ S B H σ D, En F S B H σ Γ → Post F B P D → ts D σ H
/-- an expression that may draw -/
def EX (F : Fr) (te : TE) (Γ : En0) (R : PyData → En0 → Prop) : Prop := ∀ S B H σ, En F S B H σ Γ → ∀ Q : VK, (∀ v S' B' H' d Γ', R d Γ' → En F S' B' H' σ Γ' → Ex B B' → Dq F.K B' v d → Q v H') → te σ H Q
/-- arguments that may draw -/
def AX (F : Fr) (tA : TA) (Γ : En0) (R : List PyData → En0 → Prop) : Prop := ∀ S B H σ, En F S B H σ Γ → ∀ Q : List V → Hp → Prop, (∀ vs S' B' H' ds Γ', R ds Γ' → En F S' B' H' σ Γ' → Ex B B' → DqAll F.K B' vs ds → Q vs H') → tA σ H Q
section
variable {F : Fr} {K : PySem.W.Frag} {S S' : List Addr} {B B' H H' : Hp} {σ : L2.St} {Γ : En0} {i j : Nat} {v : V} {d d' : PyData} {s : Shape} {ds es : List PyData} {a p : Addr} {xs : List V} {c : Nat} {te ta tb tl tc td ty : TE} {tt tw : TT} {tA : TA} {wi : TI} {g : TG} {R R' : V → Hp → Prop} {b b' : Bool} {t u : TS} {P : Po} {D : Ends}
theorem Post.mono (e : Ex B B') (h : Post F B P D) : Post F B' P D := ⟨fun S1 B1 H1 σ1 Γ1 p n x => h.nx S1 B1 H1 σ1 Γ1 p n (e.trans x), fun S1 B1 H1 σ1 Γ1 v d p n x => h.rt S1 B1 H1 σ1 Γ1 v d p n (e.trans x), fun S1 B1 H1 σ1 Γ1 p n x => h.bk S1 B1 H1 σ1 Γ1 p n (e.trans x), fun S1 B1 H1 σ1 Γ1 p n x => h.ct S1 B1 H1 σ1 Γ1 p n (e.trans x), fun S1 B1 H1 σ1 Γ1 a xs ds p n x => h.ro S1 B1 H1 σ1 Γ1 a xs ds p n (e.trans x)⟩
theorem SX.imp {P' : Po} (h : SX F t Γ P) (h1 : ∀ Γ', P.nx Γ' → P'.nx Γ') (h2 : ∀ d Γ', P.rt d Γ' → P'.rt d Γ') (h3 : ∀ Γ', P.bk Γ' → P'.bk Γ') (h4 : ∀ Γ', P.ct Γ' → P'.ct Γ') (h5 : ∀ ds Γ', P.ro ds Γ' → P'.ro ds Γ' := by intro _ _ h; exact h) : SX F t Γ P' :=
  fun S B H σ D e p => h S B H σ D e ⟨fun S1 B1 H1 σ1 Γ1 q => p.nx S1 B1 H1 σ1 Γ1 (h1 _ q), fun S1 B1 H1 σ1 Γ1 v d q => p.rt S1 B1 H1 σ1 Γ1 v d (h2 _ _ q), fun S1 B1 H1 σ1 Γ1 q => p.bk S1 B1 H1 σ1 Γ1 (h3 _ q), fun S1 B1 H1 σ1 Γ1 q => p.ct S1 B1 H1 σ1 Γ1 (h4 _ q), fun S1 B1 H1 σ1 Γ1 a xs ds q => p.ro S1 B1 H1 σ1 Γ1 a xs ds (h5 _ _ q)⟩
theorem En.ev (e : En F S B H σ Γ) (h : ER F.K te (hide Γ) R) {Q : VK} (k : ∀ v B' H', Ex B B' → En F S B' H' σ Γ → R v B' → Q v H') : te σ H Q :=
  (h σ B e.hidden).bind e.w fun v B' H' eH eB w r => k v B' H' eB (e.ext eH eB w) r
theorem En.evA (e : En F S B H σ Γ) (h : EE F.K te Γ d) (ha : noL d = true) {Q : VK} (k : ∀ v B' H', Ex B B' → En F S B' H' σ Γ → Dq F.K B' v d → Q v H') : te σ H Q := by
  obtain ⟨S1, B1, w1, eB, hS, hE⟩ := e.frz
  refine h σ B1 hE S1 H w1 Q fun v H' eH r => ?_
  have hS' : ∀ t ∈ S, t ∉ S1 → ∃ s xs, H' t = some (ho s xs) := fun t m n => by
    obtain ⟨s, xs, z⟩ := hS t m n
    exact ⟨s, xs, eH _ _ z⟩
  exact k v (mi H' S) H' (e.w.stepE eH) (e.ext eH (e.w.stepE eH) (e.w.step eH)) (Dq.noL hS' r ha)
theorem En.eb (e : En F S B H σ Γ) (h : EB F.K tt Γ b) {Q : Bool → Hp → Prop} (k : ∀ H', En F S B H' σ Γ → Q b H') : tt σ H Q := by
  obtain ⟨S1, B1, w1, eB, hS, hE⟩ := e.frz
  exact (h σ B1 hE).bind w1 fun B' H' eH _ _ => k H' (e.ext eH (Ex.refl _) (e.w.ext eH))
theorem x_pure (h : EE F.K te (hide Γ) d) : EX F te Γ fun x Γ' => x = d ∧ Γ' = Γ := fun S B H σ e Q q => e.ev h fun v B' H' eB e' r => q v S B' H' d Γ ⟨rfl, rfl⟩ e' eB r
theorem x_atom (h : EE F.K te Γ d) (ha : noL d = true) : EX F te Γ fun x Γ' => x = d ∧ Γ' = Γ := fun S B H σ e Q q => e.evA h ha fun v B' H' eB e' r => q v S B' H' d Γ ⟨rfl, rfl⟩ e' eB r
theorem EX.imp {R R' : PyData → En0 → Prop} (h : EX F te Γ R) (i : ∀ d Γ', R d Γ' → R' d Γ') : EX F te Γ R' := fun S B H σ e Q q => h S B H σ e Q fun v S' B' H' d Γ' r => q v S' B' H' d Γ' (i _ _ r)
/-! #### the rules of statements -/
theorem s_next (h : P.nx Γ) : SX F tNext Γ P := fun S B H σ D e p => p.nx S B H σ Γ h e (Ex.refl _)
theorem s_break (h : P.bk Γ) : SX F tBreak Γ P := fun S B H σ D e p => p.bk S B H σ Γ h e (Ex.refl _)
theorem s_cont (h : P.ct Γ) : SX F tCont Γ P := fun S B H σ D e p => p.ct S B H σ Γ h e (Ex.refl _)
theorem s_seq (h : SX F t Γ { P with nx := fun Γ' => SX F u Γ' P }) : SX F (tSeq t u) Γ P := fun S B H σ D e p =>
  h S B H σ { D with nx := u D } e ⟨fun S1 B1 H1 σ1 Γ1 q e1 x => q S1 B1 H1 σ1 D e1 (p.mono x), p.rt, p.bk, p.ct, p.ro⟩
/-- with what is true between -/
theorem s_mid (M : En0 → Prop) (h : SX F t Γ { P with nx := M }) (k : ∀ Γ', M Γ' → SX F u Γ' P) : SX F (tSeq t u) Γ P := s_seq (h.imp k (fun _ _ h => h) (fun _ h => h) fun _ h => h)
/-- a name bound to what may have been drawn -/
theorem s_asgX {R : PyData → En0 → Prop} (h : EX F te Γ R) (k : ∀ d Γ', R d Γ' → P.nx (Γ'.set i (some (.d d)))) : SX F (tAsg te (gName i)) Γ P := fun S B H σ D e p =>
  h S B H σ e _ fun v S' B' H' d Γ' r e' eB hv => p.nx S' B' H' _ _ (k d Γ' r) (e'.setD hv) eB
theorem s_asg (h : EE F.K te (hide Γ) d) (k : P.nx (Γ.set i (some (.d d)))) : SX F (tAsg te (gName i)) Γ P := s_asgX (x_pure h) fun x Γ' ⟨h1, h2⟩ => by subst h1 h2; exact k
theorem s_asgA (h : EE F.K te Γ d) (ha : noL d = true) (k : P.nx (Γ.set i (some (.d d)))) : SX F (tAsg te (gName i)) Γ P := s_asgX (x_atom h ha) fun x Γ' ⟨h1, h2⟩ => by subst h1 h2; exact k
/-- a, b = e, f -/
theorem s_par {d' : PyData} {tb : TE} (ha : EE F.K te (hide Γ) d) (hb : EE F.K tb (hide Γ) d') (k : P.nx ((Γ.set i (some (.d d))).set j (some (.d d')))) : SX F (tPar i j (tCons te (tCons tb tNil))) Γ P := fun S B H σ D e p =>
  e.ev ha fun v B1 H1 eB1 e1 r1 => e1.ev hb fun u B2 H2 eB2 e2 r2 => ⟨v, u, rfl, p.nx S B2 H2 _ _ k ((e2.setD (Dq.mono eB2 r1)).setD r2) (eB1.trans eB2)⟩
/-- a name bound to a thing of which R is true -/
theorem s_asgQ (h : ER F.K te (hide Γ) R) (st : Stays R) (k : P.nx (Γ.set i (some (.q R)))) : SX F (tAsg te (gName i)) Γ P := fun S B H σ D e p =>
  e.ev h fun v B' H' eB e' r => p.nx S B' H' _ _ k (e'.set (t := .q R) ⟨st, r⟩ fun z => by cases z) eB
theorem s_retX {R : PyData → En0 → Prop} (h : EX F te Γ R) (k : ∀ d Γ', R d Γ' → P.rt d Γ') : SX F (tRet te) Γ P := fun S B H σ D e p =>
  h S B H σ e _ fun v S' B' H' d Γ' r e' eB hv => p.rt S' B' H' σ Γ' v d (k d Γ' r) e' eB hv
theorem s_ret (h : EE F.K te (hide Γ) d) (k : P.rt d Γ) : SX F (tRet te) Γ P := s_retX (x_pure h) fun x Γ' ⟨h1, h2⟩ => by subst h1 h2; exact k
theorem s_retA (h : EE F.K te Γ d) (ha : noL d = true) (k : P.rt d Γ) : SX F (tRet te) Γ P := s_retX (x_atom h ha) fun x Γ' ⟨h1, h2⟩ => by subst h1 h2; exact k
theorem s_if (h : EB F.K tt Γ b) (h1 : b = true → SX F t Γ P) (h2 : b = false → SX F u Γ P) : SX F (tIfS tt t u) Γ P := fun S B H σ D e p => e.eb h fun H' e' => by
  cases b with
  | true => exact h1 rfl S B H' σ D e' p
  | false => exact h2 rfl S B H' σ D e' p
/-- an own list is data from here on -/
theorem s_give (hi : Γ[i]? = some (some (.o .lst ds))) (h : SX F t (Γ.set i (some (.d (.list ds)))) P) : SX F t Γ P := fun S B H σ D e p => by
  obtain ⟨S', B', e', eB⟩ := e.give hi
  exact h S' B' H σ D e' (p.mono eB)
/-- at the block's end own lists become data -/
theorem s_giveEnd (h : SX F t Γ { P with nx := fun Γ' => ∃ i ds, Γ'[i]? = some (some (.o .lst ds)) ∧ P.nx (Γ'.set i (some (.d (.list ds)))) }) : SX F t Γ P := fun S B H σ D e p =>
  h S B H σ D e ⟨fun S1 B1 H1 σ1 Γ1 ⟨i, ds, hi, q⟩ e1 x1 => by
    obtain ⟨S2, B2, e2, eB2⟩ := e1.give hi
    exact p.nx S2 B2 H1 σ1 _ q e2 (x1.trans eB2), p.rt, p.bk, p.ct, p.ro⟩
/-- an own list begun -/
theorem s_new (h : EA F.K tA (hide Γ) ds) (hl : ds.length ≤ 100000) (k : P.nx (Γ.set i (some (.o .lst ds)))) : SX F (tAsg (tLst tA) (gName i)) Γ P := fun S B H σ D e p =>
  (h σ B e.hidden).bind e.w fun vs B' H' eH eB w rs => ⟨sz_of (by rw [DqAll.length rs]; exact hl), fun q hq => p.nx _ _ _ _ _ k ((e.ext eH eB w).own (s := .lst) hq rs) eB⟩
/-- x.append(e) -/
theorem s_appX {R : PyData → En0 → Prop} (hi : Γ[i]? = some (some (.o .lst ds))) (hl : ds.length ≤ 40000) (h : EX F te Γ R) (k : ∀ d Γ', R d Γ' → Γ'[i]? = some (some (.o .lst ds)) ∧ P.nx (Γ'.set i (some (.o .lst (ds ++ [d]))))) : SX F (tDrop (tBM F.K "list" rAppend (tVar i) (tCons te tNil))) Γ P := fun S B H σ D e p => by
  obtain ⟨v, h1, ⟨a, xs, rfl, h3, h4, h5, h6⟩⟩ := e.ok i _ hi
  have h5 : H a = some (.lst xs) := h5
  refine ⟨_, h1, .inl ⟨rfl, _, sq_of h5⟩, h S B H σ e _ fun v S' B' H' d Γ' r e' eB hv => ?_⟩
  obtain ⟨k1, k2⟩ := k d Γ' r
  obtain ⟨v', g1, ⟨a', xs', g2, g3, g4, g5, g6⟩⟩ := e'.ok i _ k1
  rw [h1] at g1
  cases g1
  cases g2
  have g5 : H' a = some (.lst xs') := g5
  refine ⟨a, xs', v, rfl, rfl, g5, sz_lt (by rw [DqAll.length g6]; omega), ?_⟩
  exact p.nx _ _ _ _ _ k2 (e'.chg (s' := .lst) (xs' := xs' ++ [v]) k1 h1 (DqAll.snoc g6 hv)) eB
theorem s_app (hi : Γ[i]? = some (some (.o .lst ds))) (hl : ds.length ≤ 40000) (h : EE F.K te (hide Γ) d) (k : P.nx (Γ.set i (some (.o .lst (ds ++ [d]))))) : SX F (tDrop (tBM F.K "list" rAppend (tVar i) (tCons te tNil))) Γ P :=
  s_appX hi hl (x_pure h) fun x Γ' ⟨h1, h2⟩ => by subst h1 h2; exact ⟨hi, k⟩
theorem s_appA (hi : Γ[i]? = some (some (.o .lst ds))) (hl : ds.length ≤ 40000) (h : EE F.K te Γ d) (ha : noL d = true) (k : P.nx (Γ.set i (some (.o .lst (ds ++ [d]))))) : SX F (tDrop (tBM F.K "list" rAppend (tVar i) (tCons te tNil))) Γ P :=
  s_appX hi hl (x_atom h ha) fun x Γ' ⟨h1, h2⟩ => by subst h1 h2; exact ⟨hi, k⟩
end
section
variable {F : Fr} {Γ Γ1 Γ2 Γ3 : En0} {j j1 j2 j3 : Nat} {d d1 d2 d3 : PyData} {ds : List PyData} {P : Po} {wi : TI} {g : TG} {tb : TS} {b : Bool} {tt : TT} {te : TE}
/-- a target takes a datum: the names' worth then -/
def GT (F : Fr) (g : TG) (Γ : En0) (d : PyData) (Γ2 : En0) : Prop := ∀ S B H σ x, En F S B H σ Γ → Dq F.K B x d → ∀ Q : L2.St → Hp → Prop, (∀ σ', En F S B H σ' Γ2 → Q σ' H) → g x σ H Q
def GTs (F : Fr) (g : TGs) (Γ : En0) (ds : List PyData) (Γ2 : En0) : Prop := ∀ S B H σ xs, En F S B H σ Γ → DqAll F.K B xs ds → ∀ Q : L2.St → Hp → Prop, (∀ σ', En F S B H σ' Γ2 → Q σ' H) → g xs σ H Q
theorem gt_1 : GT F (gName j) Γ d (Γ.set j (some (.d d))) := fun S B H σ x e h Q q => q _ (e.setD h)
theorem gts_nil : GTs F gNil Γ [] Γ := fun S B H σ xs e h Q q => by cases h; exact ⟨rfl, q _ e⟩
theorem gts_cons {gs : TGs} (h1 : GT F g Γ d Γ1) (h2 : GTs F gs Γ1 ds Γ2) : GTs F (gCons g gs) Γ (d :: ds) Γ2 := fun S B H σ xs e h Q q => by
  cases h with
  | cons a r => exact ⟨_, _, rfl, h1 S B H σ _ e a _ fun σ1 e1 => h2 S B H σ1 _ e1 r _ q⟩
theorem gt_tup {gs : TGs} {n : Nat} (hn : ds.length = n) (h2 : GTs F gs Γ ds Γ2) : GT F (gTup F.K n gs) Γ (.tuple ds) Γ2 := fun S B H σ x e h Q q => by
  cases h with
  | tup hs hd => exact ⟨_, _, rfl, st_of (e.w.ex _ _ hs), by rw [DqAll.length hd]; exact hn, h2 S B H σ _ e hd Q q⟩
/-- a, b = e -/
theorem s_asgT (h : EE F.K te (hide Γ) d) (hg : GT F g Γ d Γ2) (k : P.nx Γ2) : SX F (tAsg te g) Γ P := fun S B H σ D e p =>
  e.ev h fun v B' H' eB e' r => hg S B' H' σ v e' r _ fun σ' e2 => p.nx S B' H' σ' Γ2 k e2 eB
/-- for x in l: the invariant by the turn -/
theorem s_for {α : Type} (l : List α) (enc : α → PyData) (hk : EW F.K wi (hide Γ) (l.map enc)) (Iv : Nat → En0 → Prop) (h0 : Iv 0 Γ)
    (turn : ∀ i a Γ', l[i]? = some a → Iv i Γ' → ∃ Γ2, GT F g Γ' (enc a) Γ2 ∧ SX F tb Γ2 { P with nx := Iv (i + 1), ct := Iv (i + 1), bk := P.nx }) (done : ∀ Γ', Iv l.length Γ' → P.nx Γ') : SX F (tFor wi g tb) Γ P := fun S B H σ D e p => by
  refine hk σ B e.hidden S H e.w _ fun J B1 H1 e1 eB1 w1 hgo hstop hyld => ?_
  rw [List.length_map] at hgo hstop hyld
  refine ⟨fun i m σ' H' => m = l.length - i ∧ i ≤ l.length ∧ ∃ S' B' Γ', Iv i Γ' ∧ En F S' B' H' σ' Γ' ∧ Ex B1 B', ⟨l.length, by omega, Nat.zero_le _, S, B1, Γ, h0, e.ext e1 eB1 w1, Ex.refl _⟩, ?_⟩
  rintro i m σ2 H2 ⟨rfl, hi, S', B', Γ', hv, e2, eB2⟩
  by_cases hlt : i < l.length
  · obtain ⟨a, ha⟩ : ∃ a, l[i]? = some a := ⟨l[i], List.getElem?_eq_getElem hlt⟩
    refine .inr ⟨hgo i H2 (eB2.trans e2.w.ex) hlt, fun σ' H' => ∃ S' B' Γ', Iv (i + 1) Γ' ∧ En F S' B' H' σ' Γ' ∧ Ex B1 B', fun σ' H' h => ⟨l.length - (i + 1), by omega, rfl, by omega, h⟩, fun x H3 hy => ?_⟩
    obtain ⟨B3, e3, eB3, w3, d, hd1, hd2⟩ := hyld i S' B' H2 x H3 eB2 e2.w hlt hy
    have ed : enc a = d := by
      rw [List.getElem?_map, ha] at hd1
      exact Option.some.inj hd1
    subst ed
    obtain ⟨Γ2, gt, body⟩ := turn i a Γ' ha hv
    refine gt S' B3 H3 σ2 x (e2.ext e3 eB3 w3) hd2 _ fun σ' e4 => ?_
    refine body S' B3 H3 σ' _ e4 ⟨fun S5 B5 H5 σ5 Γ5 q e5 x5 => ⟨S5, B5, Γ5, q, e5, eB2.trans (eB3.trans x5)⟩, fun S5 B5 H5 σ5 Γ5 v d q e5 x5 hv5 => p.rt S5 B5 H5 σ5 Γ5 v d q e5 (eB1.trans (eB2.trans (eB3.trans x5))) hv5, fun S5 B5 H5 σ5 Γ5 q e5 x5 => p.nx S5 B5 H5 σ5 Γ5 q e5 (eB1.trans (eB2.trans (eB3.trans x5))), fun S5 B5 H5 σ5 Γ5 q e5 x5 => ⟨S5, B5, Γ5, q, e5, eB2.trans (eB3.trans x5)⟩, fun S5 B5 H5 σ5 Γ5 a xs ds q e5 x5 => p.ro S5 B5 H5 σ5 Γ5 a xs ds q e5 (eB1.trans (eB2.trans (eB3.trans x5)))⟩
  · have ei : i = l.length := by omega
    subst ei
    exact .inl ⟨hstop _ H2 (eB2.trans e2.w.ex) rfl, p.nx S' B' H2 σ2 Γ' (done Γ' hv) e2 (eB1.trans eB2)⟩
/-- while t: the invariant by a measure -/
theorem s_while {W : Nat → En0 → Prop} (h0 : ∃ m, W m Γ) (turn : ∀ m Γ', W m Γ' → ∃ b, EB F.K tt Γ' b ∧ (b = true → SX F tb Γ' { P with nx := fun Γ2 => ∃ m', m' < m ∧ W m' Γ2, ct := fun Γ2 => ∃ m', m' < m ∧ W m' Γ2, bk := P.nx }) ∧ (b = false → P.nx Γ')) : SX F (tWhile tt tb) Γ P := fun S B H σ D e p => by
  obtain ⟨m, hm⟩ := h0
  refine ⟨fun m σ' H' => ∃ S' B' Γ', W m Γ' ∧ En F S' B' H' σ' Γ' ∧ Ex B B', ⟨m, S, B, Γ, hm, e, Ex.refl _⟩, ?_⟩
  rintro m σ2 H2 ⟨S', B', Γ', hw, e2, eB2⟩
  obtain ⟨b, hb, h1, h2⟩ := turn m Γ' hw
  refine e2.eb hb fun H3 e3 => ?_
  cases b with
  | false => exact p.nx S' B' H3 σ2 Γ' (h2 rfl) e3 eB2
  | true =>
    refine ⟨fun σ' H' => ∃ m', m' < m ∧ ∃ S' B' Γ', W m' Γ' ∧ En F S' B' H' σ' Γ' ∧ Ex B B', fun σ' H' h => h, ?_⟩
    refine h1 rfl S' B' H3 σ2 _ e3 ⟨fun S5 B5 H5 σ5 Γ5 ⟨m', l, q⟩ e5 x5 => ⟨m', l, S5, B5, Γ5, q, e5, eB2.trans x5⟩, fun S5 B5 H5 σ5 Γ5 v d q e5 x5 hv5 => p.rt S5 B5 H5 σ5 Γ5 v d q e5 (eB2.trans x5) hv5, fun S5 B5 H5 σ5 Γ5 q e5 x5 => p.nx S5 B5 H5 σ5 Γ5 q e5 (eB2.trans x5), fun S5 B5 H5 σ5 Γ5 ⟨m', l, q⟩ e5 x5 => ⟨m', l, S5, B5, Γ5, q, e5, eB2.trans x5⟩, fun S5 B5 H5 σ5 Γ5 a xs ds q e5 x5 => p.ro S5 B5 H5 σ5 Γ5 a xs ds q e5 (eB2.trans x5)⟩
/-! #### how a def begins -/
theorem eo_nil {F : Fr} {S : List Addr} {B H : Hp} : ∀ (i : Nat) (s : Sl), ([] : En0)[i]? = some (some s) → ∃ v, ([] : L2.St)[i]? = some (some v) ∧ SlO F S B H v s := fun i s h => by simp at h
abbrev SlAll (F : Fr) (S : List Addr) (B H : Hp) (σ : L2.St) (Γ : En0) : Prop := σ.length = Γ.length ∧ (∀ (i : Nat) (s : Sl), Γ[i]? = some (some s) → ∃ v, σ[i]? = some (some v) ∧ SlO F S B H v s)
theorem sl_nil {F : Fr} {S : List Addr} {B H : Hp} : SlAll F S B H [] [] := ⟨rfl, eo_nil⟩
theorem sl_some {F : Fr} {S : List Addr} {B H : Hp} {σ : L2.St} {v : V} {s : Sl} (h : SlO F S B H v s) (t : SlAll F S B H σ Γ) : SlAll F S B H (some v :: σ) (some s :: Γ) := ⟨by rw [List.length_cons, List.length_cons, t.1], fun i u hu => by
  match i, hu with
  | 0, hu =>
    cases hu
    exact ⟨v, rfl, h⟩
  | i + 1, hu => exact t.2 i u hu⟩
theorem sl_none {F : Fr} {S : List Addr} {B H : Hp} {σ : L2.St} {x : Option V} (t : SlAll F S B H σ Γ) : SlAll F S B H (x :: σ) (none :: Γ) := ⟨by rw [List.length_cons, List.length_cons, t.1], fun i u hu => by
  match i, hu with
  | 0, hu => cases hu
  | i + 1, hu => exact t.2 i u hu⟩
theorem ownO {x : Option (Option V)} {s : Option Sl} {a : Addr} (h : ownA x s a) : isO s = true := by
  match s, h with
  | some (.o _ _), _ => rfl
  | some (.b _ _), _ => rfl
  | some (.n _ _), _ => rfl
/-- a def of data alone: no own things at first -/
theorem En.start {F : Fr} {σ : L2.St} (w : Wd F.S F.B F.H) (hb : ∀ b ∈ F.bs, b ∈ F.S) (h : SlAll F F.S F.B F.H σ Γ) (hO : ∀ (i j : Nat), i ≠ j → (∃ s, Γ[i]? = some s ∧ isO s = true) → ¬ ∃ s, Γ[j]? = some s ∧ isO s = true) : En F F.S F.B F.H σ Γ :=
  ⟨w, fun a m => m, Ex.refl _, Xs.refl, hb, (fun b m z => by
    obtain ⟨o, ho⟩ := w.at_ b m
    rw [z] at ho
    cases ho), h.1, h.2, fun i j a s t hne hi hj h1 h2 => hO i j hne ⟨s, hi, ownO h1⟩ ⟨t, hj, ownO h2⟩⟩
theorem noO (h : ∀ s ∈ Γ, isO s = false) : ∀ (i j : Nat), i ≠ j → (∃ s, Γ[i]? = some s ∧ isO s = true) → ¬ ∃ s, Γ[j]? = some s ∧ isO s = true := fun i j _ ⟨s, h1, h2⟩ => by
  rw [h s (List.mem_of_getElem? h1)] at h2
  cases h2
end
/-- what a def of data does, as its callers are promised -/
theorem fn_pure {K : PySem.W.Frag} {S : List Addr} {B H : Hp} {σ : L2.St} {Γ : En0} {t : TS} {d : PyData} {D : Ends} (w : Wd S B H) (h : SlAll ⟨K, S, B, H, []⟩ S B H σ Γ) (hΓ : (Γ.all fun s => !isO s) = true)
    (hx : SX ⟨K, S, B, H, []⟩ t Γ { nx := fun _ => False, rt := fun d' _ => d' = d }) (q : ∀ v B' H', Ex H H' → Ex B B' → Wd S B' H' → Dq K B' v d → D.rt v H') : t D σ H := by
  refine hx S B H σ D (En.start (F := ⟨K, S, B, H, []⟩) w (fun b m => by cases m) h (noO fun s m => by simpa using List.all_eq_true.mp hΓ s m)) ⟨fun S' B' H' σ' Γ' z => z.elim, fun S' B' H' σ' Γ' v d' hd e eB hv => ?_, fun S' B' H' σ' Γ' z => z.elim, fun S' B' H' σ' Γ' z => z.elim, fun S' B' H' σ' Γ' a xs ds z => z.elim⟩
  subst hd
  exact q v B' H' (fun a o g => e.xH a o List.not_mem_nil g) eB (e.w.weak e.sub) hv
/-- the law: True at each script -/
theorem fn_law {K : PySem.W.Frag} {H : Hp} {a : Addr} {ns : List Int} {σ : L2.St} {Γ : En0} {t : TS} {D : Ends} (hS : SqL K H a (ns.map V.int)) (h : SlAll ⟨K, [], H, H, []⟩ [] H H σ Γ) (hΓ : (Γ.all fun s => !isO s) = true)
    (hx : SX ⟨K, [], H, H, []⟩ t (some (.d (.list (ns.map .int))) :: Γ) { nx := fun _ => False, rt := fun d _ => d = .bool true }) (q : ∀ H', D.rt (.bl true) H') : t D (some (.ref a) :: σ) H := by
  have w0 : Wd [] H H := ⟨Ex.refl H, (fun s m => by cases m), (fun s m => by cases m)⟩
  refine hx [] H H _ D (En.start (F := ⟨K, [], H, H, []⟩) w0 (fun b m => by cases m) (sl_some (s := .d _) (.lst hS DqAll.ints) h) (noO fun s m => ?_)) ⟨fun S' B' H' σ' Γ' z => z.elim, fun S' B' H' σ' Γ' v d hd e eB hv => ?_, fun S' B' H' σ' Γ' z => z.elim, fun S' B' H' σ' Γ' z => z.elim, fun S' B' H' σ' Γ' a xs ds z => z.elim⟩
  · rcases List.mem_cons.mp m with rfl | m
    · rfl
    · simpa using List.all_eq_true.mp hΓ s m
  · subst hd
    cases hv
    exact q H'
/-! ### lists of one's own: made, told -/
def EO (K : PySem.W.Frag) (te : TE) (Γ : En0) (ds : List PyData) : Prop := ∀ σ B S H, EnvF K B σ Γ → Wd S B H → ∀ Q : VK, (∀ a xs B' H', H a = none → Ex H H' → Ex B B' → Wd (a :: S) B' H' → H' a = some (.lst xs) → DqAll K B' xs ds → Q (.ref a) H') → te σ H Q
/-- a def that tells a list of the caller's own -/
def spO (K : PySem.W.Frag) (f : List PyData → List PyData → Prop) : Sp := fun vs H Q _ => ∃ S B ds es, Wd S B H ∧ DqAll K B vs ds ∧ f ds es ∧
  ∀ a xs B' H', H a = none → Ex H H' → Ex B B' → Wd (a :: S) B' H' → H' a = some (.lst xs) → DqAll K B' xs es → Q (.ref a) H'
section
variable {F : Fr} {K : PySem.W.Frag} {S : List Addr} {B H : Hp} {σ : L2.St} {Γ : En0} {i j : Nat} {ds es : List PyData} {te : TE} {tA : TA} {P : Po} {D : Ends}
theorem wd_give {a : Addr} {o : HO} (w : Wd (a :: S) B H) (ha : H a = some o) (hn : a ∉ S) : Wd S (upd B a o) H := ⟨fun b u g => by
  by_cases z : b = a
  · subst z
    rw [upd_same] at g
    rw [ha]
    exact g
  · rw [upd_ne z] at g
    exact w.ex b u g, fun b m => by
  have z : b ≠ a := fun z => hn (z ▸ m)
  rw [upd_ne z]
  exact w.no b (List.mem_cons_of_mem _ m), fun b m => w.at_ b (List.mem_cons_of_mem _ m)⟩
/-- as data -/
theorem EO.data (h : EO K te Γ ds) : EE K te Γ (.list ds) := fun σ B e =>
  evR_of (fun S H w Q q => h σ B S H e w Q fun a xs B' H' hn eH eB w' ha hx => by
    have nS : a ∉ S := fun m => by
      obtain ⟨o, ho⟩ := w.at_ a m
      rw [hn] at ho
      cases ho
    have hB : B' a = none := w'.no a List.mem_cons_self
    have eB2 : Ex B' (upd B' a (.lst xs)) := Ex.new hB
    exact q (.ref a) (upd B' a (.lst xs)) H' eH (eB.trans eB2) (wd_give w' ha nS) (.lst (sq_of upd_same) (DqAll.mono eB2 hx))) stays_dp
theorem eo_is (h : EO K te Γ ds) (e : ds = es) : EO K te Γ es := by rw [← e]; exact h
theorem eo_call {f : List PyData → List PyData → Prop} {E : XK} (h : EA K tA Γ ds) (hf : f ds es) : EO K (tCall (spO K f) [] E tA) Γ es := fun σ B S H e w Q q =>
  (h σ B e).bind w fun vs B1 H1 e1 eB1 w1 rs => ⟨S, B1, ds, es, w1, by rw [List.append_nil]; exact rs, hf, fun a xs B' H' hn eH eB w' ha hx => q a xs B' H' (by
    cases z : H a with
    | none => rfl
    | some o =>
      rw [e1 _ _ z] at hn
      cases hn) (e1.trans eH) (eB1.trans eB) w' ha hx⟩
theorem eo_lst (h : EA K tA Γ ds) (hl : ds.length ≤ 100000) : EO K (tLst tA) Γ ds := fun σ B S H e w Q q =>
  (h σ B e).bind w fun vs B1 H1 e1 eB1 w1 rs => ⟨sz_of (by rw [DqAll.length rs]; exact hl), fun p hp => q p vs B1 _ (by
    cases z : H p with
    | none => rfl
    | some o =>
      rw [e1 _ _ z] at hp
      cases hp) (e1.trans (Ex.new hp)) eB1 (w1.own hp) upd_same rs⟩
theorem En.ofEO {a : Addr} {xs : List V} {B' H' : Hp} (e : En F S B H σ Γ) (eH : Ex H H') (eB : Ex B B') (w : Wd (a :: S) B' H') : En F (a :: S) B' H' σ Γ := ⟨w, fun x m => List.mem_cons_of_mem _ (e.sub x m), e.eB.trans eB, e.xH.trans (Xs.of eH), e.fb, e.hb0, e.len, fun i s h => by
  obtain ⟨v, h1, h2⟩ := e.ok i s h
  exact ⟨v, h1, h2.ext eH eB fun a m => List.mem_cons_of_mem _ m⟩, e.ap⟩
/-- return of a list of one's own -/
theorem otr_lst {K : PySem.W.Frag} {B H : Hp} {a : Addr} {xs : List V} {ds : List PyData} (ha : H a = some (.lst xs)) (hx : DqAll K B xs ds) : OTr K B H (.ref a) (.c .lst (ds.map .d)) [a] := .c (s := .lst) ha trivial (OTrs.ofD hx) fun m => by cases m
theorem s_retEO (h : EO F.K te (hide Γ) ds) (k : P.ro (.c .lst (ds.map .d)) Γ) : SX F (tRet te) Γ P := fun S B H σ D e p =>
  h σ B S H e.hidden e.w _ fun a xs B' H' hn eH eB w ha hx => p.ro (a :: S) B' H' σ Γ (.ref a) _ [a] k (e.ofEO (xs := xs) eH eB w) eB (otr_lst ha hx) (fun b m => by rw [List.mem_singleton.mp m]; exact List.mem_cons_self) (fun b m => by rw [List.mem_singleton.mp m]; exact .inr (e.freshH hn)) fun b m j s hj => by
    rw [List.mem_singleton.mp m]
    exact e.notOwn hn hj
theorem s_retO (hi : Γ[i]? = some (some (.o .lst ds))) (k : P.ro (.c .lst (ds.map .d)) (Γ.set i none)) : SX F (tRet (tVar i)) Γ P := fun S B H σ D e p => by
  obtain ⟨v, h1, ⟨a, xs, rfl, h3, h4, h5, h6⟩⟩ := e.ok i _ hi
  refine ⟨_, h1, p.ro S B H σ (Γ.set i none) (.ref a) _ [a] k (e.drop i) (Ex.refl _) (otr_lst h5 h6) (fun b m => by rw [List.mem_singleton.mp m]; exact h3) (fun b m => by rw [List.mem_singleton.mp m]; exact .inr h4) fun b m j s hj => ?_⟩
  rw [List.mem_singleton.mp m]
  rcases get_set hj with ⟨rfl, rfl, _⟩ | ⟨hne, hj⟩
  · exact fun z => z
  · exact e.ap i j a _ _ hne hi hj (by rw [h1]; rfl)
/-- what a def that tells an own list does -/
theorem fn_own {K : PySem.W.Frag} {S : List Addr} {B H : Hp} {σ : L2.St} {Γ : En0} {t : TS} {es : List PyData} {D : Ends} (w : Wd S B H) (h : SlAll ⟨K, S, B, H, []⟩ S B H σ Γ) (hΓ : (Γ.all fun s => !isO s) = true)
    (hx : SX ⟨K, S, B, H, []⟩ t Γ { nx := fun _ => False, rt := fun _ _ => False, ro := fun d' _ => d' = .c .lst (es.map .d) }) (q : ∀ a xs B' H', H a = none → Ex H H' → Ex B B' → Wd (a :: S) B' H' → H' a = some (.lst xs) → DqAll K B' xs es → D.rt (.ref a) H') : t D σ H := by
  refine hx S B H σ D (En.start (F := ⟨K, S, B, H, []⟩) w (fun b m => by cases m) h (noO fun s m => by simpa using List.all_eq_true.mp hΓ s m)) ⟨fun S' B' H' σ' Γ' z => z.elim, fun S' B' H' σ' Γ' v d' z => z.elim, fun S' B' H' σ' Γ' z => z.elim, fun S' B' H' σ' Γ' z => z.elim, fun S' B' H' σ' Γ' v o A hd e eB hO hS hF hj => ?_⟩
  subst hd
  cases hO with
  | @c a s xs ds As h1 h2 h3 h4 =>
  obtain ⟨h5, rfl⟩ := OTrs.toD h3
  exact q a xs B' H' ((hF a List.mem_cons_self).resolve_left List.not_mem_nil) (fun a o g => e.xH a o List.not_mem_nil g) eB (e.w.weak fun b hb => by
    rcases List.mem_cons.mp hb with rfl | hb
    · exact hS _ List.mem_cons_self
    · exact e.sub b hb) h1 h5
/-- a promise of own lists, as one of data -/
theorem spO_data {f : List PyData → List PyData → Prop} {vs : List V} {H : Hp} {Q : VK} {E : XK} (h : spD K (fun ds d => ∃ es, f ds es ∧ d = .list es) vs H Q E) : spO K f vs H Q E := by
  obtain ⟨S, B, ds, d, w, hd, ⟨es, hf, rfl⟩, q⟩ := h
  refine ⟨S, B, ds, es, w, hd, hf, fun a xs B' H' hn eH eB w' ha hx => ?_⟩
  have nS : a ∉ S := fun m => by
    obtain ⟨o, ho⟩ := w.at_ a m
    rw [hn] at ho
    cases ho
  have hB : B' a = none := w'.no a List.mem_cons_self
  have eB2 : Ex B' (upd B' a (.lst xs)) := Ex.new hB
  exact q (.ref a) (upd B' a (.lst xs)) H' eH (eB.trans eB2) (wd_give w' ha nS) (.lst (sq_of upd_same) (DqAll.mono eB2 hx))
end
end Pw

/-! ## PwE -/
namespace Pw
open PySem L2 Evl

def spWebL (K : PySem.W.Frag) : Sp := fun vs H Q _ => ∃ (S : List Addr) (b : Addr) (n : Int) (c : Nat), vs = [.ref b, .int n] ∧ b ∈ S ∧ (∀ s ∈ S, ∃ o, H s = some o) ∧ BoxAt H b c ∧ c + 1000 < 2 ^ 40 ∧ 1 ≤ n ∧ n ≤ 30 ∧
  ∀ v H' ts, WebOk n ts → (∀ t ∈ ts, t.2.2 ≤ 1000000000) → Dq K (mi H' S) v (webD n ts) → Bx b (c + 1000) H H' → Q v H'
/-- posts, drawn: two at least where there are so many places -/
structure PostsOk (n : Int) (ps : List Int) : Prop where
  rise : ps.Pairwise (· < ·)
  rng : ∀ p ∈ ps, 0 ≤ p ∧ p < n
def spPosts (K : PySem.W.Frag) : Sp := fun vs H Q _ => ∃ (S : List Addr) (b : Addr) (n m : Int) (c : Nat), vs = [.ref b, .int n, .int m] ∧ b ∈ S ∧ (∀ s ∈ S, ∃ o, H s = some o) ∧ BoxAt H b c ∧ c + 100 < 2 ^ 40 ∧ 1 ≤ n ∧ n ≤ 60 ∧ 2 ≤ m ∧ m ≤ 60 ∧
  ∀ v H' ps, PostsOk n ps → (2 ≤ n → 2 ≤ ps.length) → (ps.length : Int) ≤ m → ps ≠ [] → Dq K (mi H' S) v (.list (List.map PyData.int ps)) → Bx b (c + 100) H H' → Q v H'
/-! ### expressions that draw: i names the box, k draws at most -/
def EV (K : PySem.W.Frag) (i k : Nat) (te : TE) (Γ : En0) (R : PyData → Prop) : Prop := ∀ S b B σ, EnvF K B σ (hide Γ) → σ[i]? = some (some (.ref b)) → EvX S b k te σ B fun v B' => ∃ d, R d ∧ Dq K B' v d
/-- tests that draw -/
def EVB (K : PySem.W.Frag) (i k : Nat) (tt : TT) (Γ : En0) (R : Bool → Prop) : Prop := ∀ S b B σ, EnvF K B σ (hide Γ) → σ[i]? = some (some (.ref b)) → ∀ H c, Wd S B H → b ∈ S → BoxAt H b c → c + k ≤ lid → ∀ Q : Bool → Hp → Prop, (∀ x H', Xs [b] H H' → BoxAt H' b (c + k) → R x → Q x H') → tt σ H Q
/-- what a drawing def promises of these data -/
def DrawOk (K : PySem.W.Frag) (sp : Sp) (k : Nat) (ds : List PyData) (post : PyData → Prop) : Prop := ∀ S B H b c us (Q : VK) (E : XK), Wd S B H → b ∈ S → BoxAt H b c → c + k < 2 ^ 40 → DqAll K B us ds →
  (∀ v H' d, post d → Xs [b] H H' → BoxAt H' b (c + k) → Dq K (mi H' S) v d → Q v H') → sp (.ref b :: us) H Q E
def spX (K : PySem.W.Frag) (k : Nat) (f : List PyData → (PyData → Prop) → Prop) : Sp := fun vs H Q _ => ∃ S B b c us ds post, vs = .ref b :: us ∧ Wd S B H ∧ b ∈ S ∧ BoxAt H b c ∧ c + k < 2 ^ 40 ∧ DqAll K B us ds ∧ f ds post ∧
  ∀ v H' d, post d → Xs [b] H H' → BoxAt H' b (c + k) → Dq K (mi H' S) v d → Q v H'
theorem spX_ok {K : PySem.W.Frag} {k : Nat} {f : List PyData → (PyData → Prop) → Prop} {ds : List PyData} {post : PyData → Prop} (h : f ds post) : DrawOk K (spX K k f) k ds post := fun S B H b c us Q E w hb hB hc hd q => ⟨S, B, b, c, us, ds, post, rfl, w, hb, hB, hc, hd, h, q⟩
section
variable {F : Fr} {K : PySem.W.Frag} {S S' : List Addr} {B B' H H' : Hp} {σ : L2.St} {Γ : En0} {i j k m : Nat} {v : V} {d d' : PyData} {ds es : List PyData} {a b p : Addr} {c : Nat} {te ta tb tl tm ti : TE} {tt tw : TT} {tA : TA} {wi : TI} {g : TG} {R R' Ra Rc : PyData → Prop} {t u : TS} {P : Po} {D : Ends}
theorem take_ok {n : Int} (h1 : 1 ≤ n) (h2 : n < 2 ^ 100) : DrawOk K spTake 1 [.int n] fun d => ∃ v, d = .int v ∧ 0 ≤ v ∧ v < n := fun S B H b c us Q E w hb hB hc hd q => by
  cases hd with
  | cons g1 g2 =>
  cases g1
  cases g2
  exact ⟨b, n, c, rfl, hB, by omega, h1, h2, fun v H' l1 l2 x => q (.int v) H' (.int v) ⟨v, rfl, l1, l2⟩ x.x x.at_ (.int v)⟩
theorem many_ok {l f n : Int} (h1 : l ≤ f) (h2 : 7 ≤ n) (h3 : n < 2 ^ 60) (h4 : f - l < 2 ^ 60) : DrawOk K spMany 2 [.int l, .int f, .int n] fun d => ∃ v, d = .int v ∧ (l ≤ v ∧ v ≤ f ∨ 7 ≤ v ∧ v ≤ n) := fun S B H b c us Q E w hb hB hc hd q => by
  cases hd with
  | cons g1 g2 =>
  cases g2 with
  | cons g2 g3 =>
  cases g3 with
  | cons g3 g4 =>
  cases g1
  cases g2
  cases g3
  cases g4
  exact ⟨b, l, f, n, c, rfl, hB, hc, h1, h2, h3, h4, fun v H' l1 x => q (.int v) H' (.int v) ⟨v, rfl, l1⟩ x.x x.at_ (.int v)⟩
theorem web_ok {n : Int} (h1 : 1 ≤ n) (h2 : n ≤ 30) : DrawOk K (spWeb K) 1000 [.int n] fun d => ∃ ts, d = webD n ts ∧ WebOk n ts := fun S B H b c us Q E w hb hB hc hd q => by
  cases hd with
  | cons g1 g2 =>
  cases g1
  cases g2
  exact ⟨S, b, n, c, rfl, hb, w.at_, hB, hc, h1, h2, fun v H' ts hw hv x => q v H' _ ⟨ts, rfl, hw⟩ x.x x.at_ hv⟩
theorem v_pure (h : EE K te (hide Γ) d) : EV K i 0 te Γ fun x => x = d := fun S b B σ e hb => (EvR.x (h σ B e)).imp fun v B' r => ⟨d, rfl, r⟩
theorem EV.more (h : EV K i k te Γ R) (hk : k ≤ m) : EV K i m te Γ R := fun S b B σ e hb => (h S b B σ e hb).more hk
theorem EV.imp (h : EV K i k te Γ R) (f : ∀ d, R d → R' d) : EV K i k te Γ R' := fun S b B σ e hb => (h S b B σ e hb).imp fun v B' ⟨d, h1, h2⟩ => ⟨d, f d h1, h2⟩
theorem st_dp2 : Stays fun v B => ∃ d, R d ∧ Dq K B v d := fun v B B' e ⟨d, h1, h2⟩ => ⟨d, h1, Dq.mono e h2⟩
/-- a call of a drawing def -/
theorem v_call {sp : Sp} {E : XK} (ha : EA K tA (hide Γ) ds) (ok : DrawOk K sp k ds R) : EV K i (k + 1) (tCall sp [] E (tCons (tVar i) tA)) Γ R := fun S b B σ e hb => fun H c w hbS hB hl Q q =>
  ⟨_, hb, (ha σ B e).bind w fun us B1 H1 e1 eB1 w1 rs => by
    show sp ((V.ref b :: us) ++ []) H1 Q E
    rw [List.append_nil]
    exact ok S B1 H1 b c us Q E w1 hbS (hB.ex e1) (by unfold lid at hl; omega) rs fun v H' d hd x hB' hv => q v H' ((Xs.of e1).trans x) (hB'.mono (by omega)) ⟨d, hd, hv⟩⟩
/-- the argument drawn -/
theorem v_call1 {sp : Sp} {E : XK} (ha : EV K i m ta Γ Ra) (ok : ∀ d, Ra d → DrawOk K sp k [d] R) : EV K i (m + k + 1) (tCall sp [] E (tCons (tVar i) (tCons ta tNil))) Γ R := fun S b B σ e hb => fun H c w hbS hB hl Q q =>
  ⟨_, hb, (ha S b B σ e hb).bind w hbS hB (by omega) fun v B1 H1 x1 eB1 w1 hB1 ⟨d, hd, hv⟩ => ok d hd S B1 H1 b (c + m) [v] Q E w1 hbS hB1 (by unfold lid at hl; omega) (.cons hv .nil) fun v' H' d' hd' x hB' hv' => q v' H' (x1.trans x) (hB'.mono (by omega)) ⟨d', hd', hv'⟩⟩
/-- an operator that changes nothing, of data drawn -/
theorem v_op {r : R2} (ha : EV K i k ta Γ Ra) (hb : EV K i m tb Γ Rc) (ho : ∀ d1 d2, Ra d1 → Rc d2 → ∃ d, R d ∧ ∀ σ B x y, Dq K B x d1 → Dq K B y d2 → EvD K (tOp r (tC x) (tC y)) σ B d) : EV K i (k + m) (tOp r ta tb) Γ R := fun S b B σ e hx => fun H c w hbS hB hl Q q =>
  (ha S b B σ e hx).bind w hbS hB (by omega) fun v B1 H1 x1 eB1 w1 hB1 ⟨d1, r1, h1⟩ => (hb S b B1 σ (e.mono eB1) hx).bind w1 hbS hB1 (by omega) fun u B2 H2 x2 eB2 w2 hB2 ⟨d2, r2, h2⟩ => by
    obtain ⟨d, hd, ho⟩ := ho d1 d2 r1 r2
    have h3 : tOp r (tC v) (tC u) σ H2 Q := (ho σ B2 v u (Dq.mono eB2 h1) h2).bind w2 fun z B3 H3 e3 eB3 w3 hz => q z H3 ((x1.trans x2).trans (Xs.of e3)) ((hB2.ex e3).mono (by omega)) ⟨d, hd, Dq.mono (ex_mi w3.ex w3.no) hz⟩
    exact h3
theorem webL_ok {n : Int} (h1 : 1 ≤ n) (h2 : n ≤ 30) : DrawOk K (spWebL K) 1000 [.int n] fun d => ∃ ts, d = webD n ts ∧ WebOk n ts ∧ ∀ t ∈ ts, t.2.2 ≤ 1000000000 := fun S B H b c us Q E w hb hB hc hd q => by
  cases hd with
  | cons g1 g2 =>
  cases g1
  cases g2
  exact ⟨S, b, n, c, rfl, hb, w.at_, hB, hc, h1, h2, fun v H' ts hw hl hv x => q v H' _ ⟨ts, rfl, hw, hl⟩ x.x x.at_ hv⟩
theorem posts_ok {n m : Int} (h1 : 1 ≤ n) (h2 : n ≤ 60) (h3 : 2 ≤ m) (h4 : m ≤ 60) : DrawOk K (spPosts K) 100 [.int n, .int m] fun d => ∃ ps, d = .list (ps.map .int) ∧ PostsOk n ps ∧ (2 ≤ n → 2 ≤ ps.length) ∧ (ps.length : Int) ≤ m ∧ ps ≠ [] := fun S B H b c us Q E w hb hB hc hd q => by
  cases hd with
  | cons g1 g2 =>
  cases g2 with
  | cons g2 g3 =>
  cases g1
  cases g2
  cases g3
  exact ⟨S, b, n, m, c, rfl, hb, w.at_, hB, hc, h1, h2, h3, h4, fun v H' ps hp hl hm hne hv x => q v H' _ ⟨ps, rfl, hp, hl, hm, hne⟩ x.x x.at_ hv⟩
theorem weight_ok {n : Int} (h1 : 0 ≤ n) (h2 : n < 4) : DrawOk K spWeight 2 [.int n] fun d => ∃ v, d = .int v ∧ 1 ≤ v ∧ v ≤ 1000000000 := fun S B H b c us Q E w hb hB hc hd q => by
  cases hd with
  | cons g1 g2 =>
  cases g1
  cases g2
  exact ⟨b, n, c, rfl, hB, hc, h1, h2, fun v H' l1 l2 x => q (.int v) H' (.int v) ⟨v, rfl, l1, l2⟩ x.x x.at_ (.int v)⟩
/-- x[take(len)] of a list -/
theorem v_pick {E : XK} {n : Int} (ha : EE K ta (hide Γ) (.list ds)) (hm : EE K tm (hide Γ) (.int n)) (hn : n = (ds.length : Nat)) (h0 : 1 ≤ n) (h1 : n < 2 ^ 100) : EV K i (0 + (1 + 1)) (tOp (rIxL K) ta (tCall spTake [] E (tCons (tVar i) (tCons tm tNil)))) Γ fun d => d ∈ ds :=
  v_op (v_pure ha) (v_call (na_cons hm na_nil) (take_ok h0 h1)) fun d1 d2 r1 r2 => by
    obtain ⟨v, rfl, g1, g2⟩ := r2
    subst r1
    obtain ⟨d, hd⟩ : ∃ d, ds[v.toNat]? = some d := ⟨ds[v.toNat]'(by omega), List.getElem?_eq_getElem _⟩
    exact ⟨d, List.mem_of_getElem? hd, fun σ B x y hx hy => ev_ixL (ev_c hx) (ev_c hy) (atI_at g1 hd)⟩
/-- arguments that draw: one by one -/
def AV (K : PySem.W.Frag) (i k : Nat) (tA : TA) (Γ : En0) (R : List PyData → Prop) : Prop := ∀ S b B σ, EnvF K B σ (hide Γ) → σ[i]? = some (some (.ref b)) → ∀ H c, Wd S B H → b ∈ S → BoxAt H b c → c + k ≤ lid → ∀ Q : List V → Hp → Prop, (∀ vs H', Xs [b] H H' → BoxAt H' b (c + k) → (∃ ds, R ds ∧ DqAll K (mi H' S) vs ds) → Q vs H') → tA σ H Q
theorem av_pure (h : EA K tA (hide Γ) ds) : AV K i 0 tA Γ fun x => x = ds := fun S b B σ e hb H c w hbS hB hl Q q => (h σ B e).bind w fun vs B1 H1 e1 eB1 w1 rs => q vs H1 (Xs.of e1) (hB.ex e1) ⟨ds, rfl, DqAll.mono (ex_mi w1.ex w1.no) rs⟩
theorem av_nil : AV K i 0 tNil Γ fun x => x = [] := av_pure na_nil
theorem av_cons {Rs : List PyData → Prop} (ha : EV K i k ta Γ R) (hr : AV K i m tA Γ Rs) : AV K i (k + m) (tCons ta tA) Γ fun x => ∃ d ds, x = d :: ds ∧ R d ∧ Rs ds := fun S b B σ e hb H c w hbS hB hl Q q =>
  (ha S b B σ e hb).bind w hbS hB (by omega) fun v B1 H1 x1 eB1 w1 hB1 ⟨d, r1, h1⟩ => hr S b B1 σ (e.mono eB1) hb H1 (c + k) w1 hbS hB1 (by omega) _ fun vs H2 x2 hB2 ⟨ds, r2, h2⟩ =>
    q (v :: vs) H2 (x1.trans x2) (hB2.mono (by omega)) ⟨d :: ds, ⟨d, ds, rfl, r1, r2⟩, .cons (Dq.mono (ex_mi (x2.ex1 w1.ex (w1.no b hbS)) w1.no) h1) h2⟩
/-- what data behind arguments that drew -/
theorem v_arg {Rs : List PyData → Prop} {ka : TA → TE} (ha : AV K i k tA Γ Rs) (hk : ∀ σ H Q, tA σ H (fun vs H1 => ka (fun _ H' Q' => Q' vs H') σ H1 Q) → ka tA σ H Q) (ho : ∀ ds, Rs ds → ∃ d, R d ∧ ∀ σ B vs, DqAll K B vs ds → EvD K (ka fun _ H' Q' => Q' vs H') σ B d) : EV K i k (ka tA) Γ R := fun S b B σ e hx => fun H c w hbS hB hl Q q =>
  hk σ H Q (ha S b B σ e hx H c w hbS hB hl _ fun vs H1 x1 hB1 ⟨ds, r, h⟩ => by
    obtain ⟨d, hd, ho⟩ := ho ds r
    have w1 := w.xs hbS hB x1 hB1
    exact (ho σ (mi H1 S) vs h).bind w1 fun z B3 H3 e3 eB3 w3 hz => q z H3 (x1.trans (Xs.of e3)) (hB1.ex e3) ⟨d, hd, Dq.mono (ex_mi w3.ex w3.no) hz⟩)
theorem v_tup {Rs : List PyData → Prop} (ha : AV K i k tA Γ Rs) (hl : ∀ ds, Rs ds → ds.length ≤ 100000) : EV K i k (tTup tA) Γ fun x => ∃ ds, Rs ds ∧ x = .tuple ds :=
  v_arg (ka := tTup) ha (fun σ H Q h => h) fun ds r => ⟨_, ⟨ds, r, rfl⟩, fun σ B vs hv => ev_tup (tA := fun _ H' Q' => Q' vs H') (fun S H w Q q => q vs H (Ex.refl H) (DqAll.mono (ex_mi w.ex w.no) hv)) (hl ds r)⟩
theorem v_lst {Rs : List PyData → Prop} (ha : AV K i k tA Γ Rs) (hl : ∀ ds, Rs ds → ds.length ≤ 100000) : EV K i k (tLst tA) Γ fun x => ∃ ds, Rs ds ∧ x = .list ds :=
  v_arg (ka := tLst) ha (fun σ H Q h => h) fun ds r => ⟨_, ⟨ds, r, rfl⟩, fun σ B vs hv => ev_lst (tA := fun _ H' Q' => Q' vs H') (fun S H w Q q => q vs H (Ex.refl H) (DqAll.mono (ex_mi w.ex w.no) hv)) (hl ds r)⟩
/-- a built-in that changes nothing, of data drawn -/
theorem v_cb {r : List V → Hp → VK → Prop} {Rs : List PyData → Prop} (ha : AV K i k tA Γ Rs) (ho : ∀ ds, Rs ds → ∃ d, R d ∧ ∀ σ B vs, DqAll K B vs ds → EvD K (tCB r fun _ H' Q' => Q' vs H') σ B d) : EV K i k (tCB r tA) Γ R :=
  v_arg (ka := tCB r) ha (fun σ H Q h => h) ho
/-- a def that changes nothing, of data drawn -/
theorem v_callP {f : List PyData → PyData → Prop} {E : XK} {Rs : List PyData → Prop} (ha : AV K i k tA Γ Rs) (ho : ∀ ds, Rs ds → ∃ d, R d ∧ f ds d) : EV K i k (tCall (spD K f) [] E tA) Γ R :=
  v_arg (ka := tCall (spD K f) [] E) ha (fun σ H Q h => h) fun ds r => by
    obtain ⟨d, h1, h2⟩ := ho ds r
    exact ⟨d, h1, fun σ B vs hv => ev_call (tA := fun _ H' Q' => Q' vs H') (fun S H w Q q => q vs H (Ex.refl H) (DqAll.mono (ex_mi w.ex w.no) hv)) h2⟩
/-- a test of what was drawn -/
theorem vb_test (h : EV K i k te Γ R) (hb : ∀ d, R d → ∃ x, d = .bool x) : EVB K i k (tTest te) Γ fun x => R (.bool x) := fun S b B σ e hx H c w hbS hB hl Q q => (h S b B σ e hx).bind w hbS hB hl fun v B1 H1 x1 eB1 w1 hB1 ⟨d, hd, hv⟩ => by
  obtain ⟨x, rfl⟩ := hb d hd
  cases hv
  exact ⟨x, rfl, q x H1 x1 hB1 hd⟩
theorem vb_B (h : EV K i k te Γ R) (hb : ∀ d, R d → ∃ x, d = .bool x) : EVB K i k (tB te) Γ fun x => R (.bool x) := fun S b B σ e hx H c w hbS hB hl Q q => (h S b B σ e hx).bind w hbS hB hl fun v B1 H1 x1 eB1 w1 hB1 ⟨d, hd, hv⟩ => by
  obtain ⟨x, rfl⟩ := hb d hd
  cases hv
  exact ⟨x, rfl, q x H1 x1 hB1 hd⟩
theorem vb_not {Rb : Bool → Prop} (h : EVB K i k tt Γ Rb) : EVB K i k (tNot tt) Γ fun x => Rb (!x) := fun S b B σ e hx H c w hbS hB hl Q q => h S b B σ e hx H c w hbS hB hl _ fun x H' x1 hB1 r => q (!x) H' x1 hB1 (by show Rb (!!x); rw [Bool.not_not]; exact r)
/-- a pure test, then one that draws -/
theorem vb_and {x : Bool} {Rc : Bool → Prop} (h : x = x) (ht : EB K tt (hide Γ) x) (h2 : x = true → EVB K i k tw Γ Rc) : EVB K i k (tAnd tt tw) Γ fun y => (y = true → x = true ∧ Rc true) := fun S b B σ e hx H c w hbS hB hl Q q => (ht σ B e).bind w fun B1 H1 e1 eB1 w1 => by
  cases x with
  | false => exact q false H1 (Xs.of e1) ((hB.ex e1).mono (by omega)) (fun z => by cases z)
  | true => exact h2 rfl S b B1 σ (e.mono eB1) hx H1 c w1 hbS (hB.ex e1) hl _ fun y H2 x2 hB2 r2 => q y H2 ((Xs.of e1).trans x2) hB2 fun z => ⟨rfl, z ▸ r2⟩
theorem vb_pure {x : Bool} (h : EB K tt (hide Γ) x) : EVB K i 0 tt Γ fun y => y = x := fun S b B σ e hx H c w hbS hB hl Q q => (h σ B e).bind w fun B1 H1 e1 eB1 w1 => q x H1 (Xs.of e1) (hB.ex e1) rfl
/-- [e for x in l if t], t or e drawing: Pr what is true of those made -/
theorem v_lc {α : Type} (l : List α) (enc : α → PyData) (Pr : Nat → List PyData → Prop) {vs : List Nat} {k1 k2 : Nat} {Γ2 : α → En0} {Rb : α → Bool → Prop} {Re : α → PyData → Prop} (hk : EW K wi (hide Γ) (l.map enc)) (hl : l.length ≤ 40000) (h0 : Pr 0 []) (hlen : ∀ j ys, Pr j ys → ys.length ≤ j) (hi : i ∉ vs)
    (hg : ∀ a ∈ l, GN K g vs (wipeE (hide Γ) vs) (enc a) (Γ2 a)) (hG : ∀ a ∈ l, hide (Γ2 a) = Γ2 a) (ht : ∀ a ∈ l, EVB K i k1 tt (Γ2 a) (Rb a)) (he : ∀ a ∈ l, Rb a true → EV K i k2 te (Γ2 a) (Re a))
    (hy : ∀ j a ys, l[j]? = some a → Pr j ys → (∀ d, Rb a true → Re a d → Pr (j + 1) (ys ++ [d])) ∧ (Rb a false → Pr (j + 1) ys)) : EV K i (l.length * (k1 + k2)) (tLc wi g tt te vs) Γ fun x => ∃ ys, Pr l.length ys ∧ x = .list ys := fun S b B σ e hb => by
  refine (ex_lc l enc id Pr (hk σ B e) hl h0 hlen fun j a ys ha hP x S' B' H' c' eB w' hbS hB hl hx Qy Qn q1 q2 => ?_).imp fun v B' ⟨ys, h1, h2⟩ => ⟨_, ⟨ys, h1, rfl⟩, by rw [List.map_id] at h2; exact h2⟩
  have ha' := List.mem_of_getElem? ha
  refine hg a ha' S' B' H' _ x w' ((e.mono eB).wiped vs) hx _ fun σ' e' kk ll => ⟨wipe_back (ll.trans (wipe_length ..)) fun i m => by rw [kk i m, wipeS_get, if_neg m], ?_⟩
  have hb' : σ'[i]? = some (some (.ref b)) := by rw [kk i hi, wipeS_get, if_neg hi]; exact hb
  refine ht a ha' S' b B' σ' (by rw [hG a ha']; exact e') hb' H' c' w' hbS hB (by omega) _ fun y H2 x2 hB2 r2 => ?_
  have w2 := w'.xs hbS hB x2 hB2
  have e2 := w'.xsE hbS x2
  cases y with
  | true =>
    exact (he a ha' r2 S' b (mi H2 S') σ' (by rw [hG a ha']; exact e'.mono e2) hb').bind w2 hbS hB2 (by omega) fun v B3 H3 x3 eB3 w3 hB3 ⟨d, hd, hv⟩ => q1 d v B3 H3 (x2.trans x3) (hB3.mono (by omega)) w3 (e2.trans eB3) hv ((hy j a ys ha hP).1 d r2 hd)
  | false => exact q2 ((hy j a ys ha hP).2 r2) (mi H2 S') H2 x2 (hB2.mono (by omega)) w2 e2
/-! #### statements that draw -/
/-- the box after more draws -/
theorem En.box {c' : Nat} (e : En F S B H σ Γ) (hi : Γ[i]? = some (some (.b b c))) (x : Xs [b] H H') (hB : BoxAt H' b c') (w : Wd S B' H') (eB : Ex B B') : En F S B' H' σ (Γ.set i (some (.b b c'))) := by
  obtain ⟨v, h1, ⟨rfl, h3, h4, h5⟩⟩ := e.ok i _ hi
  refine ⟨w, e.sub, e.eB.trans eB, fun a o m g => x a o (fun z => ?_) (e.xH a o m g), e.fb, e.hb0, by rw [List.length_set]; exact e.len, fun j s hj => ?_, apt_less e.ap fun a s hs ha => by
    rw [hi] at hs
    cases hs
    exact ha⟩
  · rw [List.mem_singleton.mp z] at m g
    rcases h3 with h3 | h3
    · exact m h3
    · rw [h3] at g; cases g
  · rcases get_set hj with ⟨rfl, hs, _⟩ | ⟨hne, hj⟩
    · cases hs
      exact ⟨_, h1, rfl, h3, h4, hB⟩
    · obtain ⟨u, g1, g2⟩ := e.ok j s hj
      refine ⟨u, g1, ?_⟩
      match s, g2, hj with
      | .d x, g2, _ => exact Dq.mono eB g2
      | .q R, ⟨g2, g3⟩, _ => exact ⟨g2, g2 _ _ _ eB g3⟩
      | .n As N, ⟨k1, k2, k3⟩, hj =>
        have hn : b ∉ As := fun m => e.ap i j b _ _ hne hi hj (by rw [h1]; rfl) m
        exact ⟨k1, k1.mv _ _ _ _ _ eB (fun a m => by
          obtain ⟨s, xs, z⟩ := k1.at_ _ _ _ k2 a m
          rw [z, x a _ (fun y => hn (List.mem_singleton.mp y ▸ m)) z]) k2, k3⟩
      | .o s ds, ⟨a, ys, k1, k2, k3, k4, k5⟩, hj =>
        have : a ≠ b := fun z => by
          subst z
          subst k1
          exact e.ap0 i j a hne ⟨_, hi, rfl⟩ ⟨_, hj, rfl⟩ h1 g1
        exact ⟨a, ys, k1, k2, k3, x a _ (fun z => this (List.mem_singleton.mp z)) k4, DqAll.mono eB k5⟩
      | .b a c2, ⟨k1, k2, k3, k4⟩, hj =>
        have : a ≠ b := fun z => by
          subst z
          subst k1
          exact e.ap0 i j a hne ⟨_, hi, rfl⟩ ⟨_, hj, rfl⟩ h1 g1
        obtain ⟨x1, y1, z1, l1, l2⟩ := k4
        exact ⟨k1, k2, k3, x1, y1, z1, x a _ (fun z => this (List.mem_singleton.mp z)) l1, l2⟩
theorem x_of (hi : Γ[i]? = some (some (.b b c))) (hc : c + k ≤ lid) (h : EV F.K i k te Γ R) : EX F te Γ fun d Γ' => R d ∧ Γ' = Γ.set i (some (.b b (c + k))) := fun S B H σ e Q q => by
  obtain ⟨v, h1, ⟨rfl, h3, h4, h5⟩⟩ := e.ok i _ hi
  exact (h S b B σ e.hidden h1).bind e.w h4 h5 hc fun v B' H' x eB w' hB' ⟨d, hd, hv⟩ => q v S B' H' d _ ⟨hd, rfl⟩ (e.box hi x hB' w' eB) eB hv
theorem s_asgV (hi : Γ[i]? = some (some (.b b c))) (h : EV F.K i k te Γ R) (hc : c + k ≤ lid) (kk : ∀ d, R d → P.nx ((Γ.set i (some (.b b (c + k)))).set j (some (.d d)))) : SX F (tAsg te (gName j)) Γ P :=
  s_asgX (x_of hi hc h) fun d Γ' ⟨h1, h2⟩ => by subst h2; exact kk d h1
theorem s_retV (hi : Γ[i]? = some (some (.b b c))) (h : EV F.K i k te Γ R) (hc : c + k ≤ lid) (kk : ∀ d, R d → P.rt d (Γ.set i (some (.b b (c + k))))) : SX F (tRet te) Γ P :=
  s_retX (x_of hi hc h) fun d Γ' ⟨h1, h2⟩ => by subst h2; exact kk d h1
theorem s_appV (hi : Γ[i]? = some (some (.b b c))) (ho : Γ[j]? = some (some (.o .lst ds))) (hij : i ≠ j) (hl : ds.length ≤ 40000) (h : EV F.K i k te Γ R) (hc : c + k ≤ lid) (kk : ∀ d, R d → P.nx ((Γ.set i (some (.b b (c + k)))).set j (some (.o .lst (ds ++ [d]))))) : SX F (tDrop (tBM F.K "list" rAppend (tVar j) (tCons te tNil))) Γ P :=
  s_appX ho hl (x_of hi hc h) fun d Γ' ⟨h1, h2⟩ => by subst h2; exact ⟨by rw [List.getElem?_set_ne hij]; exact ho, kk d h1⟩
theorem s_ifV {Rb : Bool → Prop} (hi : Γ[i]? = some (some (.b b c))) (h : EVB F.K i k tt Γ Rb) (hc : c + k ≤ lid) (h1 : Rb true → SX F t (Γ.set i (some (.b b (c + k)))) P) (h2 : Rb false → SX F u (Γ.set i (some (.b b (c + k)))) P) : SX F (tIfS tt t u) Γ P := fun S B H σ D e p => by
  obtain ⟨v, g1, ⟨rfl, g3, g4, g5⟩⟩ := e.ok i _ hi
  refine h S b B σ e.hidden g1 H c e.w g4 g5 hc _ fun x H' xH hB' r => ?_
  have e' := e.box hi xH hB' (e.w.xs g4 g5 xH hB') (e.w.xsE g4 xH)
  cases x with
  | true => exact h1 r S _ H' σ D e' (p.mono (e.w.xsE g4 xH))
  | false => exact h2 r S _ H' σ D e' (p.mono (e.w.xsE g4 xH))
/-- a, b = e, drawn -/
theorem s_asgTV {Γ2 : PyData → En0} (hi : Γ[i]? = some (some (.b b c))) (h : EV F.K i k te Γ R) (hc : c + k ≤ lid) (hg : ∀ d, R d → GT F g (Γ.set i (some (.b b (c + k)))) d (Γ2 d)) (kk : ∀ d, R d → P.nx (Γ2 d)) : SX F (tAsg te g) Γ P := fun S B H σ D e p =>
  x_of hi hc h S B H σ e _ fun v S' B' H' d Γ' ⟨h1, h2⟩ e' eB hv => by subst h2; exact hg d h1 S' B' H' σ v e' hv _ fun σ' e2 => p.nx S' B' H' σ' _ (kk d h1) e2 eB
/-- the box made -/
theorem s_box {E : XK} {ns : List Int} {k : Nat} (ha : EA F.K tA (hide Γ) [.list (ns.map .int), .int (k : Int)]) (hk : k < 100) (kk : ∀ b, P.nx (Γ.set j (some (.b b 0)))) : SX F (tAsg (tCall (spBox F.K) [] E tA) (gName j)) Γ P := fun S B H σ D e p =>
  (ha σ B e.hidden).bind e.w fun vs B1 H1 e1 eB1 w1 rs => by
    obtain ⟨v1, v2, rfl, r1, r2⟩ := two_args rs
    cases r2
    cases r1 with
    | @lst l xs _ hs hd =>
    have ee := DqAll.ints_eq hd
    subst ee
    refine ⟨l, ns, k, rfl, ex_l w1.ex hs, hk, fun b H' hb eH hB => ?_⟩
    have en := e.ext e1 eB1 w1
    have w2 := w1.ownX hb eH hB.some
    have e2 : En F (b :: S) B1 H' σ Γ := ⟨w2, fun a m => List.mem_cons_of_mem _ (en.sub a m), en.eB, en.xH.trans (Xs.of eH), en.fb, en.hb0, en.len, fun i s h => by
      obtain ⟨v, h1, h2⟩ := en.ok i s h
      exact ⟨v, h1, h2.ext eH (Ex.refl _) fun a m => List.mem_cons_of_mem _ m⟩, en.ap⟩
    exact p.nx (b :: S) B1 H' _ _ (kk b) (e2.setG (t := .b b 0) ⟨rfl, .inr (en.freshH hb), List.mem_cons_self, hB⟩ fun a ha j s hj hs => by
      cases ha
      exact en.notOwn hb hs) eB1
/-- an own list's element -/
theorem x_ixO {R : PyData → En0 → Prop} (hk : EX F ti Γ R) (h : ∀ d Γ', R d Γ' → ∃ (q : Int) (ds : List PyData), d = .int q ∧ Γ'[j]? = some (some (.o .lst ds)) ∧ 0 ≤ q ∧ q < ds.length) (hj : ∃ ds, Γ[j]? = some (some (.o .lst ds))) :
    EX F (tOp (rIxL F.K) (tVar j) ti) Γ fun x Γ' => ∃ (q : Int) (ds : List PyData), R (.int q) Γ' ∧ Γ'[j]? = some (some (.o .lst ds)) ∧ ds[q.toNat]? = some x := fun S B H σ e Q kk => by
  obtain ⟨ds0, hj⟩ := hj
  obtain ⟨v0, g1, ⟨a, xs, rfl, g3, g4, g5, g6⟩⟩ := e.ok j _ hj
  refine ⟨_, g1, hk S B H σ e _ fun v S' B' H' d Γ' r e' eB hv => ?_⟩
  obtain ⟨q, ds, rfl, h1, h2, h3⟩ := h d Γ' r
  cases hv
  obtain ⟨v0', k1, ⟨a', xs', k2, k3, k4, k5, k6⟩⟩ := e'.ok j _ h1
  rw [g1] at k1
  cases k1
  cases k2
  have k5 : H' a = some (.lst xs') := k5
  have hl := DqAll.length k6
  obtain ⟨x, hx⟩ : ∃ x, xs'[q.toNat]? = some x := ⟨xs'[q.toNat]'(by omega), List.getElem?_eq_getElem _⟩
  obtain ⟨d, hd, hdq⟩ := DqAll.get k6 hx
  exact ⟨a, xs', q, x, rfl, rfl, sq_of k5, atI_at h2 hx, kk x S' B' H' d Γ' ⟨q, ds, r, h1, hd⟩ e' eB hdq⟩
/-- a built-in of one datum -/
theorem x_cb1 {r : List V → Hp → VK → Prop} {R R' : PyData → En0 → Prop} (h : EX F te Γ R) (ho : ∀ d Γ', R d Γ' → ∃ d', R' d' Γ' ∧ ∀ σ B x, Dq F.K B x d → EvD F.K (tCB r (tCons (tC x) tNil)) σ B d') : EX F (tCB r (tCons te tNil)) Γ R' := fun S B H σ e Q q =>
  h S B H σ e _ fun v S' B' H' d Γ' rr e' eB hv => by
    obtain ⟨d', h1, h2⟩ := ho d Γ' rr
    have h3 : tCB r (tCons (tC v) tNil) σ H' Q := (h2 σ B' v hv).bind e'.w fun z B3 H3 e3 eB3 w3 hz => q z S' B3 H3 d' Γ' h1 (e'.ext e3 eB3 w3) (eB.trans eB3) hz
    exact h3
/-- what a drawing def does, as its callers are promised: the box is its first name -/
theorem fn_draw {b : Addr} {c k : Nat} {R : PyData → Prop} (w : Wd S B H) (hb : b ∈ S) (h : SlAll ⟨K, S, B, H, [b]⟩ S B H σ (some (.b b c) :: Γ)) (hΓ : (Γ.all fun s => !isO s) = true)
    (hx : SX ⟨K, S, B, H, [b]⟩ t (some (.b b c) :: Γ) { nx := fun _ => False, rt := fun d Γ' => R d ∧ ∃ c', Γ'[0]? = some (some (.b b c')) ∧ c' ≤ c + k }) (q : ∀ v H' d, R d → Xs [b] H H' → BoxAt H' b (c + k) → Dq K (mi H' S) v d → D.rt v H') : t D σ H := by
  refine hx S B H σ D (En.start (F := ⟨K, S, B, H, [b]⟩) w (fun a m => by rw [List.mem_singleton.mp m]; exact hb) h fun i j hne ⟨s, h1, h2⟩ ⟨s2, h3, h4⟩ => ?_) ⟨fun S' B' H' σ' Γ' z => z.elim, fun S' B' H' σ' Γ' v d ⟨hd, c', hc, hle⟩ e eB hv => ?_, fun S' B' H' σ' Γ' z => z.elim, fun S' B' H' σ' Γ' z => z.elim, fun S' B' H' σ' Γ' a xs ds z => z.elim⟩
  · have key : ∀ {i : Nat} {s : Option Sl}, i ≠ 0 → (some (Sl.b b c) :: Γ)[i]? = some s → isO s = true → False := fun {i s} hi h1 h2 => by
      match i, hi, h1 with
      | i + 1, _, h1 =>
        have := List.all_eq_true.mp hΓ s (List.mem_of_getElem? h1)
        rw [h2] at this
        cases this
    by_cases z : i = 0
    · exact key (fun y => hne (z.trans y.symm)) h3 h4
    · exact key z h1 h2
  · obtain ⟨u, g1, ⟨g2, g3, g4, g5⟩⟩ := e.ok 0 _ hc
    have w' := e.w.weak e.sub
    exact q v H' d hd e.xH (g5.mono hle) (Dq.mono (ex_mi w'.ex w'.no) hv)
end
end Pw

/-! ## PwBoxN -/
namespace Pw
open PySem L2 Evl
/-- f(box(..)): a call with a box made for it alone -/
theorem n_callBox {K : PySem.W.Frag} {Γ : En0} {tA : TA} {E E2 : XK} {ns : List Int} {k kk : Nat} {f : List PyData → (PyData → Prop) → Prop} {post : PyData → Prop} {d : PyData} (ha : EA K tA Γ [.list (ns.map .int), .int (k : Int)]) (hk : k < 100) (hkk : kk < 2 ^ 40) (hf : f [] post) (hp : ∀ d', post d' → d' = d) : EE K (tCall (spX K kk f) [] E (tCons (tCall (spBox K) [] E2 tA) tNil)) Γ d := fun σ B e =>
  evR_of (fun S H w Q q => (ha σ B e).bind w fun vs B1 H1 e1 eB1 w1 rs => by
    obtain ⟨v1, v2, rfl, r1, r2⟩ := two_args rs
    cases r2
    cases r1 with
    | @lst l xs _ hs hd =>
    have ee := DqAll.ints_eq hd
    subst ee
    refine ⟨l, ns, k, rfl, ex_l w1.ex hs, hk, fun b H' hb eH hB => ?_⟩
    have w2 := w1.ownX hb eH hB.some
    refine ⟨b :: S, B1, b, 0, [], [], post, rfl, w2, List.mem_cons_self, hB, by omega, .nil, hf, fun v H3 d' hd' x hB3 hv => ?_⟩
    have eH3 : Ex H1 H3 := x.ex1 eH hb
    rw [hp d' hd'] at hv
    exact q v _ H3 (e1.trans eH3) (eB1.trans (w1.stepE eH3)) (w1.step eH3) (Dq.mono (ex_miw fun a m => List.mem_cons_of_mem _ m) hv)) stays_dp
end Pw

/-! ## K41_law_cell_at -/
namespace Pw
open PySem L2 Evl
section
variable {P : Program} {w : World} {K : PySem.W.Frag} {mg : Str → Option Value} {base : Heap}
theorem sc_law_cell_at : FnScope nm_law_cell_at ps_law_cell_at (defScope s_law_cell_at) := ⟨rfl, rfl, rfl, by decide +kernel, rfl, by decide +kernel, by decide +kernel⟩
theorem ok_law_cell_at {f : Addr} {fd : FuncData} (T : Txt mg) (Ds : Defs K mg) (D : Dfn K mg "_law_cell_at" s_law_cell_at ps_law_cell_at f fd) : FnOk P w K mg base CX0 1 f fd ps_law_cell_at (spCellAt K) := by
  refine D.F.ok sc_law_cell_at (fun vs H Q E h => ?_) (fun cdv A outer s H vs Q E hr h => ?_)
  · obtain ⟨l, ns, k, rfl, _⟩ := h
    rfl
  · obtain ⟨l, ns, k, rfl, hs, q⟩ := h
    refine ⟨_, (pss_cons (ps_if (pt_cmpR op_lt (pv 1) (pe_callB call_len_seq (by rfl) T.m_len (by decide +kernel) (pa_cons (pv 0) pa_nil)) (nomark _))
        (pss_one (ps_ret (pe_ix ix_seq (pv 0) (pv 1) (fun _ _ => rfl))))
        pss_nil)
      (pss_one (ps_ret pe_int))), ?_⟩
    refine ⟨_, rfl, _, rfl, l, _, rfl, .inl hs, _, _, rfl, rfl, _, rfl, ite2 (fun e => ?_) (fun e => ?_)⟩
    · have hk : k < ns.length := by
        have e1 := of_decide_eq_true e
        rw [List.length_map] at e1
        omega
      have hg : (ns.map V.int)[k]? = some (.int ns[k]) := by
        rw [List.getElem?_map, List.getElem?_eq_getElem hk]
        rfl
      exact ⟨_, rfl, _, rfl, .inl ⟨l, _, _, _, rfl, rfl, hs, atI_nat hg, q _⟩⟩
    · exact q _
end
end Pw

/-! ## K41_law_box -/
namespace Pw
open PySem L2 Evl
section
variable {P : Program} {w : World} {K : PySem.W.Frag} {mg : Str → Option Value} {base : Heap}
theorem sc_law_box : FnScope nm_law_box ps_law_box (defScope s_law_box) := ⟨rfl, rfl, rfl, by decide +kernel, rfl, by decide +kernel, by decide +kernel⟩
theorem ok_law_box {f : Addr} {fd : FuncData} (T : Txt mg) (Ds : Defs K mg) (D : Dfn K mg "_law_box" s_law_box ps_law_box f fd) : FnOk P w K mg base CX0 2 f fd ps_law_box (spBox K) := by
  obtain ⟨f_law_cell_at, fd_law_cell_at, D_law_cell_at⟩ := Ds.d_law_cell_at
  have G_law_cell_at := ok_law_cell_at (P := P) (w := w) (base := base) T Ds D_law_cell_at
  refine D.F.ok sc_law_box (fun vs H Q E h => ?_) (fun cdv A outer s H vs Q E hr h => ?_)
  · obtain ⟨l, ns, k, rfl, _⟩ := h
    rfl
  · obtain ⟨l, ns, k, rfl, hs, hk, q⟩ := h
    have hr_law_cell_at := hr.mono (show 1 ≤ 1 by decide)
    refine ⟨_, (pss_cons (ps_set (i := 2) sc_law_box.nd rfl (Or.inl rfl) (pe_call G_law_cell_at hr_law_cell_at (by rfl) D_law_cell_at.g D_law_cell_at.F.kp D_law_cell_at.b .nil pass0 (pa_cons (pv 0) (pa_cons (pv 1) pa_nil))))
      (pss_one (ps_ret (pe_lst (pa_cons (pe_op op_mul (pe_callB call_abs (by rfl) T.m_abs (by decide +kernel) (pa_cons (pv 2) pa_nil)) (pe_callTy call_int1 (by rfl) T.m_int (by decide +kernel) (pa_cons (pe_cmpR op_ge (pe_callB call_abs (by rfl) T.m_abs (by decide +kernel) (pa_cons (pv 2) pa_nil)) (pe_op op_pow pe_int pe_int) (nomark _)) pa_nil))) (pa_cons (pe_op op_add (pe_op op_add (pe_op op_mod (pv 2) pe_int) (pe_op op_mul pe_int (pv 1))) pe_int) (pa_cons pe_int pa_nil))))))), ?_⟩
    refine ⟨_, rfl, _, rfl, l, ns, k, rfl, hs, fun z => ?_⟩
    refine ⟨_, rfl, _, rfl, _, rfl, _, rfl, _, _, rfl, rfl, ⟨by decide, by decide, by decide⟩, _, _, rfl, rfl, .inr ⟨_, rfl, _, _, rfl, rfl, .inr ?_, _, rfl, _, _, rfl, rfl, (by show (0 : Int) < _; decide), _, rfl, _, _, rfl, rfl, .inl ⟨by decide, by decide⟩, _, _, rfl, rfl, _, _, rfl, rfl, by show 3 ≤ sizeLine; decide, fun b hb => ?_⟩⟩
    · exact b01 _
    · refine q b _ hb (Ex.new hb) ⟨_, _, _, upd_same, ?_, ?_, ?_, by decide, by decide⟩
      · refine Int.mul_nonneg (by split <;> omega) (b0 _)
      · have := Int.emod_nonneg z (b := 2305843009213693951) (by decide)
        omega
      · have := Int.emod_lt_of_pos z (b := 2305843009213693951) (by decide)
        omega
end
end Pw

/-! ## PwO -/
namespace Pw
open PySem L2 Evl
section
variable {F : Fr} {K : PySem.W.Frag} {S S' : List Addr} {B B' H H' : Hp} {σ : L2.St} {Γ : En0} {i j k m : Nat} {v : V} {d d' : PyData} {ds es : List PyData} {a b p : Addr} {c : Nat} {te ta tb tl tn ti : TE} {tt tw : TT} {tA : TA} {wi : TI} {g : TG} {R R' Ra Rc : PyData → Prop} {t u : TS} {P : Po} {D : Ends}
theorem flat_one {α : Type} (x : α) : ∀ n : Nat, (List.replicate n [x]).flatten = List.replicate n x
  | 0 => rfl
  | n + 1 => by rw [List.replicate_succ, List.flatten_cons, flat_one x n, List.replicate_succ]; rfl
theorem DqAll.rep {x : V} (h : Dq K B x d) : ∀ n : Nat, DqAll K B (List.replicate n x) (List.replicate n d)
  | 0 => .nil
  | n + 1 => .cons h (DqAll.rep h n)
theorem DqAll.set {xs : List V} (h : DqAll K B xs ds) (hv : Dq K B v d) : ∀ (j : Nat), DqAll K B (xs.set j v) (ds.set j d) := by
  intro j
  induction j generalizing xs ds with
  | zero =>
    cases h with
    | nil => exact .nil
    | cons h1 h2 => exact .cons hv h2
  | succ j ih =>
    cases h with
    | nil => exact .nil
    | cons h1 h2 => exact .cons h1 (ih h2)
/-- [e] * n: an own list -/
theorem s_rep {n : Int} (h : EE F.K te (hide Γ) d) (hn : EE F.K tn (hide Γ) (.int n)) (h0 : 0 ≤ n ∧ n ≤ 40000) (kk : P.nx (Γ.set i (some (.o .lst (List.replicate n.toNat d))))) : SX F (tAsg (tOp rRep (tLst (tCons te tNil)) tn) (gName i)) Γ P := fun S B H σ D e p =>
  e.ev h fun v B1 H1 eB1 e1 r => ⟨(by show 1 ≤ sizeLine; decide), fun q hq => by
    have e2 : En F S B1 (upd H1 q (.lst [v])) σ Γ := e1.ext (Ex.new hq) (Ex.refl _) (e1.w.ext (Ex.new hq))
    refine (hn σ B1 e2.hidden).bind e2.w fun z B2 H2 e3 eB2 w2 rz => ?_
    cases rz
    refine ⟨q, n, [v], rfl, rfl, e3 _ _ upd_same, by omega, by omega, ?_, fun p2 hp2 => ?_⟩
    · show 1 * n.toNat ≤ sizeLine
      have : sizeLine = 100000 ∨ 40000 ≤ sizeLine := .inr (by decide)
      omega
    · rw [flat_one]
      exact p.nx _ _ _ _ _ kk ((e2.ext e3 eB2 w2).own (s := .lst) hp2 (DqAll.rep (Dq.mono eB2 r) _)) (eB1.trans eB2)⟩
/-- x[k] = e -/
theorem s_setX {R : PyData → En0 → Prop} {kI : Int} (h : EX F te Γ R) (kk : ∀ d Γ', R d Γ' → ∃ ds : List PyData, Γ'[i]? = some (some (.o .lst ds)) ∧ EE F.K ti Γ' (.int kI) ∧ 0 ≤ kI ∧ kI < ds.length ∧ P.nx (Γ'.set i (some (.o .lst (ds.set kI.toNat d))))) : SX F (tAsg te (gSub (tVar i) ti rSetL)) Γ P := fun S B H σ D e p =>
  h S B H σ e _ fun v S1 B1 H1 d Γ1 r e1 eB1 hv => by
    obtain ⟨ds, h1, h2, h3, h4, h5⟩ := kk d Γ1 r
    obtain ⟨v0, g1, ⟨a, xs, rfl, g3, g4, g5, g6⟩⟩ := e1.ok i _ h1
    refine ⟨_, g1, e1.evA h2 rfl fun z B2 H2 eB2 e2 rz => ?_⟩
    cases rz
    obtain ⟨v0', k1, ⟨a', xs', k2, k3, k4, k5, k6⟩⟩ := e2.ok i _ h1
    rw [g1] at k1
    cases k1
    cases k2
    have k5 : H2 a = some (.lst xs') := k5
    have hl : xs'.length = ds.length := DqAll.length k6
    refine ⟨a, xs', kI, kI.toNat, rfl, rfl, k5, ?_, ?_⟩
    · unfold ixN
      rw [if_pos h3, if_pos (by omega)]
    · exact p.nx _ _ _ _ _ h5 (e2.chg (s' := .lst) (xs' := xs'.set kI.toNat v) h1 g1 (DqAll.set k6 (Dq.mono eB2 hv) _)) (eB1.trans eB2)
theorem s_set {kI : Int} (hi : Γ[i]? = some (some (.o .lst ds))) (h : EE F.K te Γ d) (ha : noL d = true) (hk : EE F.K ti Γ (.int kI)) (h0 : 0 ≤ kI) (h1 : kI < ds.length) (kk : P.nx (Γ.set i (some (.o .lst (ds.set kI.toNat d))))) : SX F (tAsg te (gSub (tVar i) ti rSetL)) Γ P :=
  s_setX (kI := kI) (x_atom h ha) fun x Γ' ⟨g1, g2⟩ => by subst g1 g2; exact ⟨ds, hi, hk, h0, h1, kk⟩
/-- x[..] = e, the place drawn -/
theorem s_setV {kp : Int → Prop} (hb : Γ[j]? = some (some (.b b c))) (hi : Γ[i]? = some (some (.o .lst ds))) (hij : j ≠ i) (h : EE F.K te Γ d) (ha : noL d = true) (hk : EV F.K j k ti Γ fun x => ∃ q, x = .int q ∧ kp q) (hc : c + k ≤ lid) (h0 : ∀ q, kp q → 0 ≤ q ∧ q < ds.length)
    (kk : ∀ q, kp q → P.nx ((Γ.set j (some (.b b (c + k)))).set i (some (.o .lst (ds.set q.toNat d))))) : SX F (tAsg te (gSub (tVar i) ti rSetL)) Γ P := fun S B H σ D e p =>
  e.evA h ha fun v B1 H1 eB1 e1 hv => by
    obtain ⟨v0, g1, ⟨a, xs, rfl, g3, g4, g5, g6⟩⟩ := e1.ok i _ hi
    refine ⟨_, g1, x_of hb hc hk S B1 H1 σ e1 _ fun z S2 B2 H2 dz Γ2 ⟨⟨q, hz, hq⟩, hΓ⟩ e2 eB2 rz => ?_⟩
    subst hz hΓ
    cases rz
    have hi2 : (Γ.set j (some (Sl.b b (c + k))))[i]? = some (some (.o .lst ds)) := by rw [List.getElem?_set_ne hij]; exact hi
    obtain ⟨v0', k1, ⟨a', xs', k2, k3, k4, k5, k6⟩⟩ := e2.ok i _ hi2
    rw [g1] at k1
    cases k1
    cases k2
    have k5 : H2 a = some (.lst xs') := k5
    have hl : xs'.length = ds.length := DqAll.length k6
    obtain ⟨h3, h4⟩ := h0 q hq
    refine ⟨a, xs', q, q.toNat, rfl, rfl, k5, ?_, ?_⟩
    · unfold ixN
      rw [if_pos h3, if_pos (by omega)]
    · exact p.nx _ _ _ _ _ (kk q hq) (e2.chg (s' := .lst) (xs' := xs'.set q.toNat v) hi2 g1 (DqAll.set k6 (Dq.mono eB2 hv) _)) (eB1.trans eB2)
/-- [e] * n -/
theorem n_rep {n : Int} (h : EE K te Γ d) (hn : EE K tn Γ (.int n)) (h0 : 0 ≤ n ∧ n ≤ 40000) : EE K (tOp rRep (tLst (tCons te tNil)) tn) Γ (.list (List.replicate n.toNat d)) := fun σ B e =>
  evR_of (fun S H w Q q => (h σ B e).bind w fun v B1 H1 e1 eB1 w1 r => ⟨(by show 1 ≤ sizeLine; decide), fun x hx => ((hn σ B e).mono eB1).bind (w1.ext (Ex.new hx)) fun z B2 H2 e3 eB2 w2 rz => by
    cases rz
    refine ⟨x, n, [v], rfl, rfl, e3 _ _ upd_same, by omega, by omega, ?_, fun p2 hp2 => ?_⟩
    · show 1 * n.toNat ≤ sizeLine
      have : sizeLine = 100000 ∨ 40000 ≤ sizeLine := .inr (by decide)
      omega
    · rw [flat_one]
      exact q (.ref p2) _ _ (((e1.trans (Ex.new hx)).trans e3).trans (Ex.new hp2)) ((eB1.trans eB2).trans (w2.newE (o := .lst (List.replicate n.toNat v)) hp2)) (w2.new hp2) (.lst (sq_of upd_same) (DqAll.rep (Dq.mono (eB2.trans (w2.newE hp2)) r) _))⟩) stays_dp
/-- an own list by a comprehension -/
theorem s_lc (hl : ∀ σ B S H, EnvF F.K B σ (hide Γ) → Wd S B H → ∀ Q : VK, (∀ a xs B' H', H a = none → Ex H H' → Ex B B' → Wd (a :: S) B' H' → H' a = some (.lst xs) → DqAll F.K B' xs ds → Q (.ref a) H') → te σ H Q) (kk : P.nx (Γ.set i (some (.o .lst ds)))) : SX F (tAsg te (gName i)) Γ P := fun S B H σ D e p =>
  hl σ B S H e.hidden e.w _ fun a xs B' H' ha eH eB w hA hx => by
    have e2 : En F (a :: S) B' H' σ Γ := ⟨w, fun x m => List.mem_cons_of_mem _ (e.sub x m), e.eB.trans eB, e.xH.trans (Xs.of eH), e.fb, e.hb0, e.len, fun i s h => by
      obtain ⟨v, h1, h2⟩ := e.ok i s h
      exact ⟨v, h1, h2.ext eH eB fun a m => List.mem_cons_of_mem _ m⟩, e.ap⟩
    exact p.nx (a :: S) B' H' _ _ kk (e2.setG (t := .o .lst ds) ⟨a, xs, rfl, List.mem_cons_self, e.freshH ha, hA, hx⟩ fun b hb j s hj hs => by
      cases hb
      exact e.notOwn ha hs) eB
/-- [e for x in l if t]: an own list -/
theorem s_lcO {α : Type} (l : List α) (enc : α → PyData) (f : α → Bool) (e : α → PyData) {vs : List Nat} (hk : EW F.K wi (hide Γ) (l.map enc)) (hl : l.length ≤ 40000) (turn : ∀ a ∈ l, NTurn F.K g tt te (hide Γ) vs (enc a) (f a) (e a)) (kk : P.nx (Γ.set i (some (.o .lst ((l.filter f).map e))))) : SX F (tAsg (tLc wi g tt te vs) (gName i)) Γ P :=
  s_lc (fun σ B S H hE w Q q => lc_ownP l enc f e (hk σ B hE) hl (fun a ha => turn a ha σ B hE) w q) kk
theorem s_lcO1 {α : Type} (l : List α) (enc : α → PyData) (e : α → PyData) {vs : List Nat} (hk : EW F.K wi (hide Γ) (l.map enc)) (hl : l.length ≤ 40000) (turn : ∀ a ∈ l, NTurn F.K g tYes te (hide Γ) vs (enc a) true (e a)) (kk : P.nx (Γ.set i (some (.o .lst (l.map e))))) : SX F (tAsg (tLc wi g tYes te vs) (gName i)) Γ P :=
  s_lcO l enc (fun _ => true) e hk hl turn (by rw [List.filter_eq_self.mpr fun _ _ => rfl]; exact kk)
section
variable {K : PySem.W.Frag} {Γ : En0} {wi : TI} {g : TG} {tt : TT} {te : TE}
theorem eo_lc {α : Type} (l : List α) (enc : α → PyData) (f : α → Bool) (e : α → PyData) {vs : List Nat} (hk : EW K wi Γ (l.map enc)) (hl : l.length ≤ 40000) (turn : ∀ a ∈ l, NTurn K g tt te Γ vs (enc a) (f a) (e a)) : EO K (tLc wi g tt te vs) Γ ((l.filter f).map e) :=
  fun σ B S H hE w Q q => lc_ownP l enc f e (hk σ B hE) hl (fun a ha => turn a ha σ B hE) w q
theorem eo_lc1 {α : Type} (l : List α) (enc : α → PyData) (e : α → PyData) {vs : List Nat} (hk : EW K wi Γ (l.map enc)) (hl : l.length ≤ 40000) (turn : ∀ a ∈ l, NTurn K g tYes te Γ vs (enc a) true (e a)) : EO K (tLc wi g tYes te vs) Γ (l.map e) :=
  eo_is (eo_lc l enc (fun _ => true) e hk hl turn) (by rw [List.filter_eq_self.mpr fun _ _ => rfl])
end
section
variable {F : Fr} {Γ : En0} {i : Nat} {te : TE} {P : Po}
theorem s_aug {g : Int → Int → Int} {x y : Int} (hi : Γ[i]? = some (some (.d (.int x)))) (h : EE F.K te Γ (.int y)) (kk : P.nx (Γ.set i (some (.d (.int (g x y)))))) : SX F (tAug i te (ipI g)) Γ P := fun S B H σ D e p => by
  obtain ⟨v, h1, h2⟩ := e.ok i _ hi
  cases (show Dq F.K B v (.int x) from h2)
  refine ⟨_, h1, e.evA h rfl fun z B1 H1 eB1 e1 rz => ?_⟩
  cases rz
  exact ⟨x, y, rfl, rfl, p.nx _ _ _ _ _ kk (e1.setD (.int _)) eB1⟩
end
end
end Pw

/-! ## PwCls -/
namespace Pw
open PySem L2 Evl

/-! ### classes of the text: methods, what makes an object; attributes, calls of methods -/
structure Mfn (K : PySem.W.Frag) (C : Addr) (x q : Str) (st : Stmt) (ps : List Str) (f : Addr) (fd : FuncData) : Prop where
  F : Fun K x q st f fd
  m : Meth K C x f
  b : Binds K fd ps []
structure Ifn (K : PySem.W.Frag) (C : Addr) (x q : Str) (st : Stmt) (ps : List Str) (f : Addr) (fd : FuncData) : Prop where
  F : Fun K x q st f fd
  k : Mk K C f
  b : Binds K fd ps []
theorem pe_fldK {X : Cx} {e : Expr} {ta : TE} {f : Str} {pos : Pos} (K : PySem.W.Frag) (hK : X.K = K) (he : PE X e ta) (hb : attributeBase e f X.env (eval e X.env) = eval e X.env) : PE X (.Attribute e f pos) (tFld K ta f) := hK ▸ pe_fld he hb
/-- xs[i], by values, i not below 0 -/
def rGetL (K : PySem.W.Frag) : V → V → Hp → VK → Prop := fun x y H Q => ∃ (p : Addr) (xs : List V) (i : Nat) (v : V), x = .ref p ∧ y = .int (i : Int) ∧ SqL K H p xs ∧ xs[i]? = some v ∧ Q v H
theorem get_list {X : Cx} : PGet X (rGetL X.K) := fun pins s σ H o i ov iv Q I ro ri h => by
  obtain ⟨p, xs, j, v, rfl, rfl, hq, hv, q⟩ := h
  cases ro
  obtain ⟨t, rfl⟩ := ri
  obtain ⟨its, r, pl, hz⟩ := I.list hq
  obtain ⟨u, eu, ru⟩ := r.get hv
  have hl := r.length
  have hj := (List.getElem?_eq_some_iff.mp hv).1
  have hn := line63
  exact PySem.wpAny_getItem_list pl.isList (by omega) (by omega) (by simpa using eu) ⟨v, H, I, ru, q⟩
section
variable {K : PySem.W.Frag} {σ : L2.St} {B H : Hp} {S : List Addr} {ta te : TE} {tA : TA} {f : Str} {p C dx : Addr} {fs : List (Str × V)} {v : V}
theorem ev_fld (ho : EvV ta σ B (.ref p)) (hp : B p = some (.ins C dx fs)) (c : Cls K C) (n : NoAttr K C f) (l : fs.lookup f = some v) : EvV (tFld K ta f) σ B v :=
  evR_of (fun S H w Q q => ho.bind w fun x B1 H1 e1 eB1 w1 ex => ⟨p, C, dx, fs, v, ex, w1.ex _ _ (eB1 _ _ hp), c, n, l, q v B1 H1 e1 eB1 w1 rfl⟩) stays_eq
theorem EvV.d {d : PyData} (h : EvV te σ B v) (hd : Dq K B v d) : EvD K te σ B d :=
  evR_of (fun S H w Q q => h.bind w fun x B1 H1 e1 eB1 w1 ex => by
    subst ex
    exact q _ B1 H1 e1 eB1 w1 (Dq.mono eB1 hd)) stays_dp
/-- a call of a method that changes nothing -/
theorem ev_meth {m : Str} {sp : Sp} {ds : List PyData} {R : V → Hp → Prop} (ho : EvV ta σ B (.ref p)) (hp : B p = some (.ins C dx fs)) (l : fs.lookup m = none) (ha : EvAD K tA σ B ds) (st : Stays R)
    (hsp : ∀ S B' H' vs Q, Ex B B' → Wd S B' H' → DqAll K B' vs ds → (∀ v B2 H2, Ex H' H2 → Ex B' B2 → Wd S B2 H2 → R v B2 → Q v H2) → sp (.ref p :: (vs ++ [])) H' Q E0) : EvR (tMeth C m sp [] E0 ta tA) σ B R :=
  evR_of (fun S H w Q q => ho.bind w fun x B1 H1 e1 eB1 w1 ex => ⟨p, dx, fs, ex, w1.ex _ _ (eB1 _ _ hp), l, (ha.mono eB1).bind w1 fun vs B2 H2 e2 eB2 w2 rs => by
    rw [ex]
    exact hsp S B2 H2 vs Q (eB1.trans eB2) w2 rs fun v B3 H3 e3 eB3 w3 r => q v B3 H3 (e1.trans (e2.trans e3)) (eB1.trans (eB2.trans eB3)) w3 r⟩) st
end
end Pw

/-! ## PwTe -/
namespace Pw
open PySem L2 Evl
/-! ### statements about trees of own things -/
def OwnK (F : Fr) (S : List Addr) (σ : L2.St) (Γ : En0) (A : List Addr) : Prop := (∀ a ∈ A, a ∈ S) ∧ (∀ a ∈ A, a ∈ F.bs ∨ F.H a = none) ∧ ∀ a ∈ A, ∀ (j : Nat) (s : Option Sl), Γ[j]? = some s → ¬ ownA σ[j]? s a
/-- an expression that tells what may be one's own -/
def XO (F : Fr) (te : TE) (Γ : En0) (R : OD → En0 → Prop) : Prop := ∀ S B H σ, En F S B H σ Γ → ∀ Q : VK, (∀ v S' B' H' o Γ' A, R o Γ' → En F S' B' H' σ Γ' → Ex B B' → OTr F.K B' H' v o A → OwnK F S' σ Γ' A → Q v H') → te σ H Q
/-- the names that are left are among those that were -/
def Less (Γ Γ1 : En0) : Prop := ∀ (j : Nat) (s : Option Sl), Γ1[j]? = some s → s = none ∨ Γ[j]? = some s
theorem less_refl {Γ : En0} : Less Γ Γ := fun j s h => .inr h
theorem less_set {Γ : En0} {i : Nat} : Less Γ (Γ.set i none) := fun j s h => by
  rcases get_set h with ⟨_, rfl, _⟩ | ⟨_, h⟩
  · exact .inl rfl
  · exact .inr h
theorem less_trans {Γ Γ1 Γ2 : En0} (h1 : Less Γ Γ1) (h2 : Less Γ1 Γ2) : Less Γ Γ2 := fun j s h => (h2 j s h).elim .inl fun h => h1 j s h
structure XFok (F : Fr) (S S' : List Addr) (H : Hp) (σ : L2.St) (Γ Γ' : En0) (A : List Addr) : Prop where
  own : OwnK F S' σ Γ' A
  src : ∀ a ∈ A, (∃ (j : Nat) (s : Option Sl), Γ[j]? = some s ∧ ownA σ[j]? s a) ∨ H a = none
  less : Less Γ Γ'
  sub : ∀ a ∈ S, a ∈ S'
/-- .. and leaves all else as it is -/
def XF (F : Fr) (te : TE) (Γ : En0) (R : OD → En0 → Prop) : Prop := ∀ S B H σ, En F S B H σ Γ → ∀ Q : VK, (∀ v S' B' H' o Γ' A, R o Γ' → Ex H H' → En F S' B' H' σ Γ' → Ex B B' → OTr F.K B' H' v o A → XFok F S S' H σ Γ Γ' A → Q v H') → te σ H Q
theorem XF.x {F : Fr} {te : TE} {Γ : En0} {R : OD → En0 → Prop} (h : XF F te Γ R) : XO F te Γ R := fun S B H σ e Q q => h S B H σ e Q fun v S' B' H' o Γ' A r _ e' eB t hA => q v S' B' H' o Γ' A r e' eB t hA.own
/-- a tree that stands in what is frozen -/
def TRq (K : PySem.W.Frag) (o : OD) (v : V) (B : Hp) : Prop := ∃ As, OTr K B B v o As
theorem stays_TRq {K : PySem.W.Frag} {o : OD} : Stays (TRq K o) := fun v B B' e ⟨As, t⟩ => ⟨As, t.mv e fun a m => by
  obtain ⟨s, xs, z⟩ := t.at_ a m
  rw [z, e _ _ z]⟩
/-- a name that is a tree: one's own, or one that is frozen -/
def IsT (K : PySem.W.Frag) (Γ : En0) (i : Nat) (o : OD) : Prop := (∃ x As, Γ[i]? = some (some (nX K x o As))) ∨ Γ[i]? = some (some (.q (TRq K o)))
theorem it_o {K : PySem.W.Frag} {Γ : En0} {i : Nat} {o : OD} {x : Option V} {As : List Addr} (h : Γ[i]? = some (some (nX K x o As))) : IsT K Γ i o := .inl ⟨x, As, h⟩
theorem it_q {K : PySem.W.Frag} {Γ : En0} {i : Nat} {o : OD} (h : Γ[i]? = some (some (.q (TRq K o)))) : IsT K Γ i o := .inr h
/-- a place within a name's tree -/
def EP (K : PySem.W.Frag) (te : TE) (Γ : En0) (i : Nat) (p : List Nat) : Prop := ∀ σ B, EnvF K B σ Γ → ∀ v0, σ[i]? = some (some v0) → EvR te σ B fun v B' => AtP B' v0 p v
theorem stays_atP {v0 : V} {p : List Nat} : Stays fun v B => AtP B v0 p v := fun v B B' e h => h.mono e
theorem lookup_zip : ∀ {fn : List Str} {xs : List V} {j : Nat} {f : Str} {v : V}, fn.Nodup → fn[j]? = some f → xs[j]? = some v → (fn.zip xs).lookup f = some v
  | [], _, _, _, _, _, h, _ => by simp at h
  | _ :: _, [], _, _, _, _, _, h => by simp at h
  | g :: fn, x :: xs, 0, f, v, hn, h1, h2 => by
    simp only [List.getElem?_cons_zero, Option.some.injEq] at h1 h2
    subst h1 h2
    rw [List.zip_cons_cons, List.lookup_cons]
    simp
  | g :: fn, x :: xs, j + 1, f, v, hn, h1, h2 => by
    obtain ⟨g1, g2⟩ := List.nodup_cons.mp hn
    simp only [List.getElem?_cons_succ] at h1 h2
    have hne : ¬ f = g := fun z => g1 (z ▸ List.mem_of_getElem? h1)
    rw [List.zip_cons_cons, List.lookup_cons, beq_eq_false_iff_ne.mpr hne]
    exact lookup_zip g2 h1 h2
theorem val_zip {κ : Type} [DecidableEq κ] : ∀ {ks : List κ} {xs : List V} {j : Nat} {k : κ} {v : V}, ks.Nodup → ks[j]? = some k → xs[j]? = some v → valV (ks.zip xs) k = some v
  | [], _, _, _, _, _, h, _ => by simp at h
  | _ :: _, [], _, _, _, _, _, h => by simp at h
  | g :: ks, x :: xs, 0, f, v, hn, h1, h2 => by
    simp only [List.getElem?_cons_zero, Option.some.injEq] at h1 h2
    subst h1 h2
    show (List.find? _ ((g, x) :: ks.zip xs)).map _ = _
    rw [List.find?_cons]
    simp
  | g :: ks, x :: xs, j + 1, f, v, hn, h1, h2 => by
    obtain ⟨g1, g2⟩ := List.nodup_cons.mp hn
    simp only [List.getElem?_cons_succ] at h1 h2
    have hne : ¬ g = f := fun z => g1 (z.symm ▸ List.mem_of_getElem? h1)
    show (List.find? _ ((g, x) :: ks.zip xs)).map _ = _
    rw [List.find?_cons, decide_eq_false hne]
    exact val_zip g2 h1 h2
theorem val_zipN {κ : Type} [DecidableEq κ] : ∀ {ks : List κ} {xs : List V} {k : κ}, k ∉ ks → valV (ks.zip xs) k = none
  | [], _, _, _ => rfl
  | _ :: _, [], _, _ => rfl
  | g :: ks, x :: xs, k, h => by
    have hne : ¬ g = k := fun z => h (z ▸ List.mem_cons_self)
    show (List.find? _ ((g, x) :: ks.zip xs)).map _ = _
    rw [List.find?_cons, decide_eq_false hne]
    exact val_zipN (xs := xs) fun z => h (List.mem_cons_of_mem _ z)
theorem put_zipN {κ : Type} [DecidableEq κ] {ks : List κ} {xs : List V} {k : κ} {v : V} (h : ks.length = xs.length) (hk : k ∉ ks) : putK (ks.zip xs) k v = (ks ++ [k]).zip (xs ++ [v]) := by
  unfold putK
  rw [if_neg, List.zip_append h]
  · rfl
  · intro z
    obtain ⟨p, hp, e⟩ := List.any_eq_true.mp z
    have e := of_decide_eq_true e
    have : p.1 ∈ (ks.zip xs).map (·.1) := List.mem_map.mpr ⟨p, hp, rfl⟩
    rw [zipT_fst h, e] at this
    exact hk this
abbrev kI (ki : List Int) : List Key := ki.map Sum.inl
abbrev kT (kp : List (Int × Int)) : List (List Key) := kp.map fun k => [Sum.inl k.1, Sum.inl k.2]
theorem kI_nd {ki : List Int} (h : ki.Nodup) : (kI ki).Nodup := List.pairwise_map.mpr (h.imp fun hne e => hne (by cases e; rfl))
theorem kT_nd {kp : List (Int × Int)} (h : kp.Nodup) : (kT kp).Nodup := List.pairwise_map.mpr (h.imp fun hne e => hne (by
  simp only [List.cons.injEq, Sum.inl.injEq, and_true] at e
  exact Prod.ext e.1 e.2))
theorem kI_at {ki : List Int} {j : Nat} {k : Int} (h : ki[j]? = some k) : (kI ki)[j]? = some (Sum.inl k) := by rw [List.getElem?_map, h]; rfl
theorem kT_at {kp : List (Int × Int)} {j : Nat} {k : Int × Int} (h : kp[j]? = some k) : (kT kp)[j]? = some [Sum.inl k.1, Sum.inl k.2] := by rw [List.getElem?_map, h]; rfl
theorem kI_mem {ki : List Int} {k : Int} : (Sum.inl k : Key) ∈ kI ki ↔ k ∈ ki := ⟨fun h => by
  obtain ⟨x, hx, e⟩ := List.mem_map.mp h
  cases e
  exact hx, fun h => List.mem_map.mpr ⟨k, h, rfl⟩⟩
theorem kT_mem {kp : List (Int × Int)} {k : Int × Int} : ([Sum.inl k.1, Sum.inl k.2] : List Key) ∈ kT kp ↔ k ∈ kp := ⟨fun h => by
  obtain ⟨x, hx, e⟩ := List.mem_map.mp h
  simp only [List.cons.injEq, Sum.inl.injEq, and_true] at e
  rw [← show x = k from Prod.ext e.1 e.2]
  exact hx, fun h => List.mem_map.mpr ⟨k, h, rfl⟩⟩
theorem val_isI {ki : List Int} {xs : List V} {k : Int} (hd : ki.Nodup) (h : (kI ki).length = xs.length) : (valV ((kI ki).zip xs) (Sum.inl k)).isSome = decide (k ∈ ki) := by
  by_cases m : k ∈ ki
  · obtain ⟨j, hj⟩ := List.getElem?_of_mem m
    have hj := kI_at hj
    have hjl := (List.getElem?_eq_some_iff.mp hj).1
    rw [val_zip (kI_nd hd) hj (List.getElem?_eq_getElem (l := xs) (i := j) (by omega)), decide_eq_true m]
    rfl
  · rw [val_zipN fun z => m (kI_mem.mp z), decide_eq_false m]
    rfl
theorem val_isT {kp : List (Int × Int)} {xs : List V} {k : Int × Int} (hd : kp.Nodup) (h : (kT kp).length = xs.length) : (valV ((kT kp).zip xs) [Sum.inl k.1, Sum.inl k.2]).isSome = decide (k ∈ kp) := by
  by_cases m : k ∈ kp
  · obtain ⟨j, hj⟩ := List.getElem?_of_mem m
    have hj := kT_at hj
    have hjl := (List.getElem?_eq_some_iff.mp hj).1
    rw [val_zip (kT_nd hd) hj (List.getElem?_eq_getElem (l := xs) (i := j) (by omega)), decide_eq_true m]
    rfl
  · rw [val_zipN fun z => m (kT_mem.mp z), decide_eq_false m]
    rfl
/-- a pair as a dict's key -/
theorem key_pair {K : PySem.W.Frag} {B : Hp} {y : V} {k : Int × Int} (h : Dq K B y (pairD k)) : ∃ b, y = .ref b ∧ B b = some (.tup (([Sum.inl k.1, Sum.inl k.2] : List Key).map kV)) := by
  cases h with
  | @tup b ys _ hb hys =>
  have ey := DqAll.ints_eq (ns := [k.1, k.2]) hys
  subst ey
  exact ⟨b, rfl, hb⟩
theorem put_zipI {κ : Type} [DecidableEq κ] : ∀ {ks : List κ} {xs : List V} {j : Nat} {k : κ} {v : V}, ks.Nodup → ks.length = xs.length → ks[j]? = some k → putK (ks.zip xs) k v = ks.zip (xs.set j v) := fun {ks xs j k v} hn hl hj => by
  have hjl := (List.getElem?_eq_some_iff.mp hj).1
  unfold putK
  rw [if_pos]
  · refine List.ext_getElem? fun m => ?_
    rw [List.getElem?_map]
    by_cases hm : m < ks.length
    · have h1 : (ks.zip xs)[m]? = some (ks[m], xs[m]'(by omega)) := by
        rw [List.getElem?_zip_eq_some]
        exact ⟨List.getElem?_eq_getElem hm, List.getElem?_eq_getElem _⟩
      rw [h1]
      have hkm : ks[m]? = some ks[m] := List.getElem?_eq_getElem hm
      by_cases e : j = m
      · subst e
        have ek : ks[j] = k := by
          rw [hj] at hkm
          exact (Option.some.inj hkm).symm
        have h2 : (ks.zip (xs.set j v))[j]? = some (k, v) := by
          rw [List.getElem?_zip_eq_some]
          exact ⟨hj, List.getElem?_set_self (by omega)⟩
        rw [h2]
        show some (if ks[j] = k then (ks[j], v) else (ks[j], xs[j]'(by omega))) = _
        rw [if_pos ek, ek]
      · have hne : ¬ ks[m] = k := fun z => e ((List.getElem?_inj hjl hn).mp (by rw [hj, hkm, z]))
        have h2 : (ks.zip (xs.set j v))[m]? = some (ks[m], xs[m]'(by omega)) := by
          rw [List.getElem?_zip_eq_some]
          exact ⟨hkm, by rw [List.getElem?_set_ne e]; exact List.getElem?_eq_getElem _⟩
        rw [h2]
        show some (if ks[m] = k then (ks[m], v) else (ks[m], xs[m]'(by omega))) = _
        rw [if_neg hne]
    · have h1 : (ks.zip xs)[m]? = none := List.getElem?_eq_none (by rw [List.length_zip]; omega)
      have h2 : (ks.zip (xs.set j v))[m]? = none := List.getElem?_eq_none (by rw [List.length_zip]; omega)
      rw [h1, h2]
      rfl
  · refine List.any_eq_true.mpr ⟨(k, xs[j]'(by omega)), List.mem_of_getElem? (i := j) ?_, decide_eq_true rfl⟩
    rw [List.getElem?_zip_eq_some]
    exact ⟨hj, List.getElem?_eq_getElem _⟩
theorem putF_at : ∀ {fn : List Str} {xs : List V} {j : Nat} {f : Str} {v : V}, fn.Nodup → fn.length = xs.length → fn[j]? = some f → putF f v (fn.zip xs) = fn.zip (xs.set j v)
  | [], _, _, _, _, _, _, h => by simp at h
  | _ :: _, [], _, _, _, _, h, _ => by simp at h
  | g :: fn, x :: xs, 0, f, v, hn, hl, h => by
    simp only [List.getElem?_cons_zero, Option.some.injEq] at h
    subst h
    show (if g = g then (g, v) :: fn.zip xs else (g, x) :: putF g v (fn.zip xs)) = _
    rw [if_pos rfl]
    rfl
  | g :: fn, x :: xs, j + 1, f, v, hn, hl, h => by
    obtain ⟨g1, g2⟩ := List.nodup_cons.mp hn
    simp only [List.getElem?_cons_succ] at h
    have hne : ¬ g = f := fun z => g1 (z.symm ▸ List.mem_of_getElem? h)
    show (if g = f then (g, v) :: fn.zip xs else (g, x) :: putF f v (fn.zip xs)) = _
    rw [if_neg hne, putF_at g2 (by simpa using hl) h]
    rfl
theorem putF_new : ∀ {fn : List Str} {xs : List V} {f : Str} {v : V}, fn.length = xs.length → f ∉ fn → putF f v (fn.zip xs) = (fn ++ [f]).zip (xs ++ [v])
  | [], [], _, _, _, _ => rfl
  | [], _ :: _, _, _, h, _ => by simp at h
  | _ :: _, [], _, _, h, _ => by simp at h
  | g :: fn, x :: xs, f, v, hl, h => by
    have hne : ¬ g = f := fun z => h (z ▸ List.mem_cons_self)
    show (if g = f then (g, v) :: fn.zip xs else (g, x) :: putF f v (fn.zip xs)) = _
    rw [if_neg hne, putF_new (by simpa using hl) fun z => h (List.mem_cons_of_mem _ z)]
    rfl
theorem zip_set_eq {α : Type} {fn : List α} {xs ys : List V} {j : Nat} {v : V} (h1 : fn.length = xs.length) (h2 : fn.length = ys.length) (e : fn.zip xs = fn.zip ys) : fn.zip (ys.set j v) = fn.zip (xs.set j v) := by
  have := congrArg (List.map (·.2)) e
  rw [zipT_snd h1, zipT_snd h2] at this
  rw [this]
section
variable {F : Fr} {K : PySem.W.Frag} {S S' : List Addr} {B B' H H' : Hp} {σ : L2.St} {Γ : En0} {i j : Nat} {v u : V} {d d' : PyData} {o sub : OD} {ds es : List PyData} {os : List OD} {a : Addr} {As A : List Addr} {te ta tb ti tc td ty tv : TE} {tt : TT} {tA : TA} {P : Po} {p : List Nat} {R R' : OD → En0 → Prop} {s : Shape}
/-! #### places -/
theorem ep_var : EP K (tVar i) Γ i [] := fun σ B e v0 h => evR_of (fun S H w Q q => ⟨v0, h, q v0 B H (Ex.refl H) (Ex.refl B) w rfl⟩) stays_atP
theorem EnvF.treeV (e : EnvF K B σ Γ) (hi : IsT K Γ i o) : ∃ v0, σ[i]? = some (some v0) := by
  rcases hi with ⟨x, As, hi⟩ | hi
  · obtain ⟨v, g1, _⟩ := e.ok i _ hi
    exact ⟨v, g1⟩
  · obtain ⟨v, g1, _⟩ := e.ok i _ hi
    exact ⟨v, g1⟩
/-- the thing at a place, in what is frozen -/
theorem EnvF.tree (e : EnvF K B σ Γ) (hi : IsT K Γ i o) {v0 : V} (h0 : σ[i]? = some (some v0)) (eB : Ex B B') (hp : AtP B' v0 p u) (hg : o.get p = some sub) : ∃ A1, OTr K B' B' u sub A1 := by
  have key : ∃ As, OTr K B B v0 o As := by
    rcases hi with ⟨x, As, hi⟩ | hi
    · obtain ⟨v, g1, g2, g3⟩ := e.ok i _ hi
      rw [h0] at g1
      cases g1
      exact ⟨As, g3.1⟩
    · obtain ⟨v, g1, g2, g3⟩ := e.ok i _ hi
      rw [h0] at g1
      cases g1
      exact g3
  obtain ⟨As, g3⟩ := key
  have t : OTr K B' B' v0 o As := g3.mv eB fun a m => by
    obtain ⟨s, xs, z⟩ := g3.at_ a m
    rw [z, eB _ _ z]
  obtain ⟨A1, k1, _⟩ := t.focus (Ex.refl _) hp hg
  exact ⟨A1, k1⟩
theorem ep_ix {k : Int} (h : EP K te Γ i p) (hi : IsT K Γ i o) (hg : o.get p = some (.c .lst os)) (hk : EE K ti Γ (.int k)) (hj : ixN os.length k = some j) : EP K (tOp (rIxL K) te ti) Γ i (p ++ [j]) := fun σ B e v0 h0 =>
  evR_of (fun S H w Q q => (h σ B e v0 h0).bind w fun v B1 H1 e1 eB1 w1 r1 => ((hk σ B e).mono eB1).bind w1 fun y B2 H2 e2 eB2 w2 ry => by
    cases ry
    have r2 := r1.mono eB2
    obtain ⟨A1, t⟩ := e.tree hi h0 (eB1.trans eB2) r2 hg
    cases t with
    | @c a _ xs _ _ h1 h2 h3 h4 =>
    have hl := h3.len
    obtain ⟨_, hjl, _⟩ := ixN_seq hj
    obtain ⟨x, hx⟩ : ∃ x, xs[j]? = some x := ⟨xs[j], List.getElem?_eq_getElem (by omega)⟩
    refine ⟨a, xs, k, x, rfl, rfl, sq_of (w2.ex _ _ h1), ?_, q x B2 H2 (e1.trans e2) (eB1.trans eB2) w2 (r2.snoc h1 hx)⟩
    unfold atI
    rw [hl, hj]
    exact hx) stays_atP
/-- x[k] of a tuple with own things -/
theorem ep_ixT {k : Int} (h : EP K te Γ i p) (hi : IsT K Γ i o) (hg : o.get p = some (.t os)) (hk : EE K ti Γ (.int k)) (hj : ixN os.length k = some j) : EP K (tOp (rIx K) te ti) Γ i (p ++ [j]) := fun σ B e v0 h0 =>
  evR_of (fun S H w Q q => (h σ B e v0 h0).bind w fun v B1 H1 e1 eB1 w1 r1 => ((hk σ B e).mono eB1).bind w1 fun y B2 H2 e2 eB2 w2 ry => by
    cases ry
    have r2 := r1.mono eB2
    obtain ⟨A1, t⟩ := e.tree hi h0 (eB1.trans eB2) r2 hg
    cases t with
    | @t a xs _ _ h1 h3 =>
    have hl := h3.len
    obtain ⟨_, hjl, _⟩ := ixN_seq hj
    obtain ⟨x, hx⟩ : ∃ x, xs[j]? = some x := ⟨xs[j], List.getElem?_eq_getElem (by omega)⟩
    refine .inr (.inl ⟨a, xs, k, x, rfl, rfl, st_of (w2.ex _ _ h1), ?_, q x B2 H2 (e1.trans e2) (eB1.trans eB2) w2 (r2.snoc h1 hx)⟩)
    unfold atI
    rw [hl, hj]
    exact hx) stays_atP
theorem ep_fld {C dx : Addr} {fn : List Str} {f : Str} (h : EP K te Γ i p) (hi : IsT K Γ i o) (hg : o.get p = some (.c (.ins C dx fn) os)) (hc : Cls K C) (hn : NoAttr K C f) (hd : fn.Nodup) (hf : fn[j]? = some f) : EP K (tFld K te f) Γ i (p ++ [j]) := fun σ B e v0 h0 =>
  evR_of (fun S H w Q q => (h σ B e v0 h0).bind w fun v B1 H1 e1 eB1 w1 r1 => by
    obtain ⟨A1, t⟩ := e.tree hi h0 eB1 r1 hg
    cases t with
    | @c a _ xs _ _ h1 h2 h3 h4 =>
    have h2 : fn.length = xs.length := h2
    have hjl := (List.getElem?_eq_some_iff.mp hf).1
    obtain ⟨x, hx⟩ : ∃ x, xs[j]? = some x := ⟨xs[j], List.getElem?_eq_getElem (by omega)⟩
    exact ⟨a, C, dx, fn.zip xs, x, rfl, w1.ex _ _ h1, hc, hn, lookup_zip hd hf hx, q x B1 H1 e1 eB1 w1 (r1.snoc h1 (by rw [kids_ho (s := .ins C dx fn) h2]; exact hx))⟩) stays_atP
theorem ep_dget {ki : List Int} {k : Int} (h : EP K td Γ i p) (hi : IsT K Γ i o) (hg : o.get p = some (.c (.dK (kI ki)) os)) (hk : EE K ty Γ (.int k)) (hd : ki.Nodup) (hf : ki[j]? = some k) : EP K (tDGet td ty) Γ i (p ++ [j]) := fun σ B e v0 h0 =>
  evR_of (fun S H w Q q => (h σ B e v0 h0).bind w fun v B1 H1 e1 eB1 w1 r1 => ((hk σ B e).mono eB1).bind w1 fun y B2 H2 e2 eB2 w2 ry => by
    cases ry
    have r2 := r1.mono eB2
    obtain ⟨A1, t⟩ := e.tree hi h0 (eB1.trans eB2) r2 hg
    cases t with
    | @c a _ xs _ _ h1 h2 h3 h4 =>
    have h2 : (kI ki).length = xs.length := h2
    have hj : (kI ki)[j]? = some (Sum.inl k) := kI_at hf
    have hjl := (List.getElem?_eq_some_iff.mp hj).1
    obtain ⟨x, hx⟩ : ∃ x, xs[j]? = some x := ⟨xs[j], List.getElem?_eq_getElem (by omega)⟩
    refine ⟨a, x, rfl, ?_, q x B2 H2 (e1.trans e2) (eB1.trans eB2) w2 (r2.snoc h1 (by rw [kids_ho (s := .dK (kI ki)) h2]; exact hx))⟩
    have := DGet.k (k := Sum.inl k) (w2.ex _ _ h1)
    rw [val_zip (kI_nd hd) hj hx] at this
    exact this) stays_atP
theorem ep_dgetT {kp : List (Int × Int)} {k : Int × Int} (h : EP K td Γ i p) (hi : IsT K Γ i o) (hg : o.get p = some (.c (.dT (kT kp)) os)) (hk : EE K ty Γ (pairD k)) (hd : kp.Nodup) (hf : kp[j]? = some k) : EP K (tDGet td ty) Γ i (p ++ [j]) := fun σ B e v0 h0 =>
  evR_of (fun S H w Q q => (h σ B e v0 h0).bind w fun v B1 H1 e1 eB1 w1 r1 => ((hk σ B e).mono eB1).bind w1 fun y B2 H2 e2 eB2 w2 ry => by
    obtain ⟨b, rfl, hb⟩ := key_pair ry
    have r2 := r1.mono eB2
    obtain ⟨A1, t⟩ := e.tree hi h0 (eB1.trans eB2) r2 hg
    cases t with
    | @c a _ xs _ _ h1 h2 h3 h4 =>
    have h2 : (kT kp).length = xs.length := h2
    have hj : (kT kp)[j]? = some [Sum.inl k.1, Sum.inl k.2] := kT_at hf
    have hjl := (List.getElem?_eq_some_iff.mp hj).1
    obtain ⟨x, hx⟩ : ∃ x, xs[j]? = some x := ⟨xs[j], List.getElem?_eq_getElem (by omega)⟩
    refine ⟨a, x, rfl, ?_, q x B2 H2 (e1.trans e2) (eB1.trans eB2) w2 (r2.snoc h1 (by rw [kids_ho (s := .dT (kT kp)) h2]; exact hx))⟩
    have := DGet.t (k := [Sum.inl k.1, Sum.inl k.2]) (w2.ex _ _ h1) (w2.ex _ _ hb)
    rw [val_zip (kT_nd hd) hj hx] at this
    exact this) stays_atP
/-! #### what is read -/
theorem n_at (h : EP K te Γ i p) (hi : IsT K Γ i o) (hg : o.get p = some sub) (hd : sub.asD = some d) : EE K te Γ d := fun σ B e => by
  obtain ⟨v0, h0⟩ := e.treeV hi
  refine evR_of (fun S H w Q q => (h σ B e v0 h0).bind w fun v B1 H1 e1 eB1 w1 r1 => ?_) stays_dp
  obtain ⟨A1, t⟩ := e.tree hi h0 eB1 r1 hg
  exact q v B1 H1 e1 eB1 w1 (t.data hd)
theorem n_lenP (h : EP K te Γ i p) (hi : IsT K Γ i o) (hg : o.get p = some (.c .lst os)) : EE K (tCB (rLenS K) (tCons te tNil)) Γ (.int (os.length : Nat)) := fun σ B e => by
  obtain ⟨v0, h0⟩ := e.treeV hi
  refine evR_of (fun S H w Q q => (h σ B e v0 h0).bind w fun v B1 H1 e1 eB1 w1 r1 => ?_) stays_dp
  obtain ⟨A1, t⟩ := e.tree hi h0 eB1 r1 hg
  cases t with
  | @c a _ xs _ _ h1 h2 h3 h4 =>
  have q1 := q (.int (os.length : Nat)) B1 H1 e1 eB1 w1 (.int _)
  rw [← h3.len] at q1
  exact ⟨a, xs, rfl, .inl (sq_of (w1.ex _ _ h1)), q1⟩
theorem n_dinP {ki : List Int} {k : Int} (hk : EE K ty Γ (.int k)) (h : EP K td Γ i p) (hi : IsT K Γ i o) (hg : o.get p = some (.c (.dK (kI ki)) os)) (hd : ki.Nodup) : EE K (tDIn ty td) Γ (.bool (decide (k ∈ ki))) := fun σ B e => by
  obtain ⟨v0, h0⟩ := e.treeV hi
  refine evR_of (fun S H w Q q => (hk σ B e).bind w fun y B1 H1 e1 eB1 w1 ry => ((h σ B e v0 h0).mono eB1).bind w1 fun v B2 H2 e2 eB2 w2 r1 => ?_) stays_dp
  cases ry
  obtain ⟨A1, t⟩ := e.tree hi h0 (eB1.trans eB2) r1 hg
  cases t with
  | @c a _ xs _ _ h1 h2 h3 h4 =>
  have q1 := q (.bl (decide (k ∈ ki))) B2 H2 (e1.trans e2) (eB1.trans eB2) w2 (.bl _)
  rw [← val_isI hd h2] at q1
  exact ⟨a, _, rfl, DGet.k (k := Sum.inl k) (w2.ex _ _ h1), q1⟩
theorem n_dninP {ki : List Int} {k : Int} (hk : EE K ty Γ (.int k)) (h : EP K td Γ i p) (hi : IsT K Γ i o) (hg : o.get p = some (.c (.dK (kI ki)) os)) (hd : ki.Nodup) : EE K (tDNotIn ty td) Γ (.bool (!decide (k ∈ ki))) := fun σ B e => by
  obtain ⟨v0, h0⟩ := e.treeV hi
  refine evR_of (fun S H w Q q => (hk σ B e).bind w fun y B1 H1 e1 eB1 w1 ry => ((h σ B e v0 h0).mono eB1).bind w1 fun v B2 H2 e2 eB2 w2 r1 => ?_) stays_dp
  cases ry
  obtain ⟨A1, t⟩ := e.tree hi h0 (eB1.trans eB2) r1 hg
  cases t with
  | @c a _ xs _ _ h1 h2 h3 h4 =>
  have q1 := q (.bl (!decide (k ∈ ki))) B2 H2 (e1.trans e2) (eB1.trans eB2) w2 (.bl _)
  rw [← val_isI hd h2] at q1
  exact ⟨a, _, rfl, DGet.k (k := Sum.inl k) (w2.ex _ _ h1), q1⟩
theorem n_dinPT {kp : List (Int × Int)} {k : Int × Int} (hk : EE K ty Γ (pairD k)) (h : EP K td Γ i p) (hi : IsT K Γ i o) (hg : o.get p = some (.c (.dT (kT kp)) os)) (hd : kp.Nodup) : EE K (tDIn ty td) Γ (.bool (decide (k ∈ kp))) := fun σ B e => by
  obtain ⟨v0, h0⟩ := e.treeV hi
  refine evR_of (fun S H w Q q => (hk σ B e).bind w fun y B1 H1 e1 eB1 w1 ry => ((h σ B e v0 h0).mono eB1).bind w1 fun v B2 H2 e2 eB2 w2 r1 => ?_) stays_dp
  obtain ⟨b, rfl, hb⟩ := key_pair (Dq.mono eB2 ry)
  obtain ⟨A1, t⟩ := e.tree hi h0 (eB1.trans eB2) r1 hg
  cases t with
  | @c a _ xs _ _ h1 h2 h3 h4 =>
  have q1 := q (.bl (decide (k ∈ kp))) B2 H2 (e1.trans e2) (eB1.trans eB2) w2 (.bl _)
  rw [← val_isT hd h2] at q1
  exact ⟨a, _, rfl, DGet.t (k := [Sum.inl k.1, Sum.inl k.2]) (w2.ex _ _ h1) (w2.ex _ _ hb), q1⟩
theorem n_dninPT {kp : List (Int × Int)} {k : Int × Int} (hk : EE K ty Γ (pairD k)) (h : EP K td Γ i p) (hi : IsT K Γ i o) (hg : o.get p = some (.c (.dT (kT kp)) os)) (hd : kp.Nodup) : EE K (tDNotIn ty td) Γ (.bool (!decide (k ∈ kp))) := fun σ B e => by
  obtain ⟨v0, h0⟩ := e.treeV hi
  refine evR_of (fun S H w Q q => (hk σ B e).bind w fun y B1 H1 e1 eB1 w1 ry => ((h σ B e v0 h0).mono eB1).bind w1 fun v B2 H2 e2 eB2 w2 r1 => ?_) stays_dp
  obtain ⟨b, rfl, hb⟩ := key_pair (Dq.mono eB2 ry)
  obtain ⟨A1, t⟩ := e.tree hi h0 (eB1.trans eB2) r1 hg
  cases t with
  | @c a _ xs _ _ h1 h2 h3 h4 =>
  have q1 := q (.bl (!decide (k ∈ kp))) B2 H2 (e1.trans e2) (eB1.trans eB2) w2 (.bl _)
  rw [← val_isT hd h2] at q1
  exact ⟨a, _, rfl, DGet.t (k := [Sum.inl k.1, Sum.inl k.2]) (w2.ex _ _ h1) (w2.ex _ _ hb), q1⟩
/-! #### worlds changed within a tree -/
theorem En.move {s0 : Option Sl} {t : Sl} {Y : List Addr} (e : En F S B H σ Γ) (hi : Γ[i]? = some s0) (hv : σ[i]? = some (some v)) (hY : ∀ a ∈ Y, ownA σ[i]? s0 a ∨ ∀ (j : Nat) (s : Option Sl), Γ[j]? = some s → ¬ ownA σ[j]? s a) (hYF : ∀ a ∈ Y, a ∈ F.bs ∨ F.H a = none)
    (x : Xs Y H H') (hSS : ∀ a ∈ S, a ∈ S') (w : Wd S' B' H') (eB : Ex B B') (ht : SlO F S' B' H' v t) (hn : ∀ a, ownA (some (some v)) (some t) a → ownA σ[i]? s0 a ∨ ∀ (j : Nat) (s : Option Sl), Γ[j]? = some s → ¬ ownA σ[j]? s a) : En F S' B' H' σ (Γ.set i (some t)) := by
  have off : ∀ {a j s}, i ≠ j → Γ[j]? = some s → ownA σ[j]? s a → a ∉ Y := fun {a j s} hne hj ho m => by
    rcases hY a m with h | h
    · exact e.ap i j a _ _ hne hi hj h ho
    · exact h j s hj ho
  refine ⟨w, fun a m => hSS a (e.sub a m), e.eB.trans eB, fun a o m g => x a o (fun z => ?_) (e.xH a o m g), e.fb, e.hb0, by rw [List.length_set]; exact e.len, fun j s hj => ?_, apt_set e.ap (fun _ _ => rfl) fun a ha j s hj hs ho => ?_⟩
  · rcases hYF a z with h | h
    · exact m h
    · rw [h] at g; cases g
  · rcases get_set hj with ⟨rfl, hs, _⟩ | ⟨hne, hj⟩
    · cases hs
      exact ⟨v, hv, ht⟩
    · obtain ⟨u, g1, g2⟩ := e.ok j s hj
      refine ⟨u, g1, ?_⟩
      match s, g2, hj with
      | .d x, g2, _ => exact Dq.mono eB g2
      | .q R, ⟨g2, g3⟩, _ => exact ⟨g2, g2 _ _ _ eB g3⟩
      | .o s ds, ⟨a, ys, k1, k2, k3, k4, k5⟩, hj =>
        subst k1
        exact ⟨a, ys, rfl, hSS a k2, k3, x a _ (off hne hj g1) k4, DqAll.mono eB k5⟩
      | .b a c2, ⟨k1, k2, k3, k4⟩, hj =>
        subst k1
        obtain ⟨x1, y1, z1, l1, l2⟩ := k4
        exact ⟨rfl, k2, hSS a k3, x1, y1, z1, x a _ (off hne hj g1) l1, l2⟩
      | .n As N, ⟨k1, k2, k3⟩, hj =>
        exact ⟨k1, k1.mv _ _ _ _ _ eB (fun a m => by
          obtain ⟨s, xs, z⟩ := k1.at_ _ _ _ k2 a m
          rw [z, x a _ (off hne hj m) z]) k2, fun a m => ⟨hSS a (k3 a m).1, (k3 a m).2⟩⟩
  · rw [hv] at ha
    rcases hn a ha with h | h
    · exact e.ap i j a _ _ (Ne.symm hj) hi hs h ho
    · exact h j s hs ho
/-- the thing at a place, as it is -/
theorem En.evP (e : En F S B H σ Γ) (h : EP F.K te Γ i p) {v0 : V} (h0 : σ[i]? = some (some v0)) {Q : VK} (k : ∀ u H', Ex H H' → En F S B H' σ Γ → AtP H' v0 p u → Q u H') : te σ H Q := by
  obtain ⟨S1, B1, w1, eB, hS, hE⟩ := e.frz
  exact (h σ B1 hE v0 h0).bind w1 fun u B2 H' eH eB2 w2 r => k u H' eH (e.ext eH (Ex.refl _) (e.w.ext eH)) (r.mono w2.ex)
/-- as En.evA, with the step -/
theorem En.evAx (e : En F S B H σ Γ) (h : EE F.K te Γ d) (ha : noL d = true) {Q : VK} (k : ∀ v B' H', Ex H H' → Ex B B' → En F S B' H' σ Γ → Dq F.K B' v d → Q v H') : te σ H Q := by
  obtain ⟨S1, B1, w1, eB, hS, hE⟩ := e.frz
  refine h σ B1 hE S1 H w1 Q fun v H' eH r => ?_
  have hS' : ∀ t ∈ S, t ∉ S1 → ∃ s xs, H' t = some (ho s xs) := fun t m n => by
    obtain ⟨s, xs, z⟩ := hS t m n
    exact ⟨s, xs, eH _ _ z⟩
  exact k v (mi H' S) H' eH (e.w.stepE eH) (e.ext eH (e.w.stepE eH) (e.w.step eH)) (Dq.noL hS' r ha)
theorem OTrs.setO {xs : List V} {o' : OD} (h : OTrs K B H xs os As) (hj : j < os.length) (t : OTr K B H v o' A) (hd : ∀ b ∈ A, b ∉ As) : ∃ A5, OTrs K B H (xs.set j v) (os.set j o') A5 ∧ ∀ b ∈ A5, b ∈ As ∨ b ∈ A := by
  have hl := h.len
  obtain ⟨A1, f1, f2, f3⟩ := h.focus (List.getElem?_eq_getElem (l := xs) (i := j) (by omega)) (List.getElem?_eq_getElem hj)
  obtain ⟨A5, g1, g2⟩ := f3 v o' A B H (Ex.refl _) (fun b m n => rfl) t fun b m => .inr (hd b m)
  exact ⟨A5, g1, fun b m => (g2 b m).imp (fun z => z.1) id⟩
/-- an own thing at a with another row in it -/
theorem c_upd {s' : Shape} {xs' : List V} {os' : List OD} {A2 A' A5 : List Addr} (h4 : a ∉ A2) (hne : a ∉ A') (h5 : OTrs K B H xs' os' A5) (h6 : ∀ b ∈ A5, b ∈ A2 ∨ b ∈ A') (hs : okS s' xs'.length) : OTr K B (upd H a (ho s' xs')) (.ref a) (.c s' os') (a :: A5) := by
  have ha : a ∉ A5 := fun z => (h6 a z).elim h4 hne
  exact .c upd_same hs (h5.mv (Ex.refl _) fun b m => upd_ne fun z => ha (z ▸ m)) ha
/-! #### values -/
theorem ownK_nil : OwnK F S σ Γ [] := ⟨fun a m => (List.not_mem_nil m).elim, fun a m => (List.not_mem_nil m).elim, fun a m => (List.not_mem_nil m).elim⟩
theorem xo_X {R0 : PyData → En0 → Prop} (h : EX F te Γ R0) (k : ∀ d Γ', R0 d Γ' → R (.d d) Γ') : XO F te Γ R := fun S B H σ e Q q => h S B H σ e Q fun v S' B' H' d Γ' r e' eB hv => q v S' B' H' _ Γ' [] (k d Γ' r) e' eB (.d hv) ownK_nil
theorem xf_d (h : EE F.K te (hide Γ) d) : XF F te Γ fun o Γ' => o = .d d ∧ Γ' = Γ := fun S B H σ e Q q => (h σ B e.hidden).bind e.w fun v B' H' eH eB w r => q v S B' H' _ Γ [] ⟨rfl, rfl⟩ eH (e.ext eH eB w) eB (.d r) ⟨ownK_nil, fun a m => (List.not_mem_nil m).elim, less_refl, fun a m => m⟩
theorem xf_a (h : EE F.K te Γ d) (ha : noL d = true) : XF F te Γ fun o Γ' => o = .d d ∧ Γ' = Γ := fun S B H σ e Q q => e.evAx h ha fun v B' H' eH eB e' r => q v S B' H' _ Γ [] ⟨rfl, rfl⟩ eH e' eB (.d r) ⟨ownK_nil, fun a m => (List.not_mem_nil m).elim, less_refl, fun a m => m⟩
theorem XO.imp (h : XO F te Γ R) (k : ∀ o Γ', R o Γ' → R' o Γ') : XO F te Γ R' := fun S B H σ e Q q => h S B H σ e Q fun v S' B' H' o Γ' A r e' eB t hA => q v S' B' H' o Γ' A (k o Γ' r) e' eB t hA
/-- fresh things are no name's own -/
theorem En.freshK (e : En F S B H σ Γ) {S' : List Addr} {A : List Addr} (h1 : ∀ a ∈ A, a ∈ S') (h2 : ∀ a ∈ A, H a = none) : OwnK F S' σ Γ A := ⟨h1, fun a m => .inr (e.freshH (h2 a m)), fun a m j s hj => e.notOwn (h2 a m) hj⟩
theorem xf_eo (h : EO F.K te (hide Γ) ds) : XF F te Γ fun o Γ' => o = .c .lst (ds.map .d) ∧ Γ' = Γ := fun S B H σ e Q q =>
  h σ B S H e.hidden e.w _ fun a xs B' H' hn eH eB w ha hx => q (.ref a) (a :: S) B' H' _ Γ [a] ⟨rfl, rfl⟩ eH (e.ofEO (xs := xs) eH eB w) eB (otr_lst ha hx) ⟨e.freshK (fun b m => by rw [List.mem_singleton.mp m]; exact List.mem_cons_self) fun b m => by rw [List.mem_singleton.mp m]; exact hn, fun b m => by rw [List.mem_singleton.mp m]; exact .inr hn, less_refl, fun b m => List.mem_cons_of_mem _ m⟩
/-- a list that reads what is one's own -/
theorem xf_eoA (h : EO F.K te Γ ds) (hd : noLs ds = true) : XF F te Γ fun o Γ' => o = .c .lst (ds.map .d) ∧ Γ' = Γ := fun S B H σ e Q q => by
  obtain ⟨S1, B1, w1, eB, hS, hE⟩ := e.frz
  refine h σ B1 S1 H hE w1 _ fun a xs B2 H2 hn eH eB2 w2 ha hx => ?_
  have hx2 : DqAll F.K (mi H2 (a :: S)) xs ds := by
    refine DqAll.noL (S1 := a :: S1) (fun t m n => ?_) (DqAll.mono (ex_mi w2.ex w2.no) hx) hd
    rcases List.mem_cons.mp m with rfl | m
    · exact absurd List.mem_cons_self n
    · obtain ⟨s, xs, z⟩ := hS t m fun z => n (List.mem_cons_of_mem _ z)
      exact ⟨s, xs, eH _ _ z⟩
  have w3 : Wd (a :: S) (mi H2 (a :: S)) H2 := ⟨mi_ex, fun s m => mi_no m, fun s m => by
    rcases List.mem_cons.mp m with rfl | m
    · exact ⟨_, ha⟩
    · obtain ⟨o, h⟩ := e.w.at_ s m
      exact ⟨o, eH _ _ h⟩⟩
  have eB3 : Ex B (mi H2 (a :: S)) := ex_mi (e.w.ex.trans eH) fun s m => by
    rcases List.mem_cons.mp m with rfl | m
    · exact e.w.fresh hn
    · exact e.w.no s m
  exact q (.ref a) (a :: S) _ H2 _ Γ [a] ⟨rfl, rfl⟩ eH (e.ofEO (xs := xs) eH eB3 w3) eB3 (otr_lst ha hx2) ⟨e.freshK (fun b m => by rw [List.mem_singleton.mp m]; exact List.mem_cons_self) fun b m => by rw [List.mem_singleton.mp m]; exact hn, fun b m => by rw [List.mem_singleton.mp m]; exact .inr hn, less_refl, fun b m => List.mem_cons_of_mem _ m⟩
theorem xf_dnewK : XF F tDNewK Γ fun o Γ' => o = .c (.dK []) [] ∧ Γ' = Γ := fun S B H σ e Q q a ha => by
  have e2 : En F (a :: S) B (upd H a (.dK [])) σ Γ := e.ofEO (xs := []) (Ex.new ha) (Ex.refl _) (e.w.own ha)
  exact q (.ref a) (a :: S) B _ _ Γ [a] ⟨rfl, rfl⟩ (Ex.new ha) e2 (Ex.refl _) (.c (s := .dK []) (xs := []) upd_same rfl .nil fun m => by cases m) ⟨e.freshK (fun b m => by rw [List.mem_singleton.mp m]; exact List.mem_cons_self) fun b m => by rw [List.mem_singleton.mp m]; exact ha, fun b m => by rw [List.mem_singleton.mp m]; exact .inr ha, less_refl, fun b m => List.mem_cons_of_mem _ m⟩
theorem xf_dnewT : XF F tDNewT Γ fun o Γ' => o = .c (.dT []) [] ∧ Γ' = Γ := fun S B H σ e Q q a ha => by
  have e2 : En F (a :: S) B (upd H a (.dT [])) σ Γ := e.ofEO (xs := []) (Ex.new ha) (Ex.refl _) (e.w.own ha)
  exact q (.ref a) (a :: S) B _ _ Γ [a] ⟨rfl, rfl⟩ (Ex.new ha) e2 (Ex.refl _) (.c (s := .dT []) (xs := []) upd_same rfl .nil fun m => by cases m) ⟨e.freshK (fun b m => by rw [List.mem_singleton.mp m]; exact List.mem_cons_self) fun b m => by rw [List.mem_singleton.mp m]; exact ha, fun b m => by rw [List.mem_singleton.mp m]; exact .inr ha, less_refl, fun b m => List.mem_cons_of_mem _ m⟩
/-- a name's own tree, the name forgotten -/
theorem xf_var {x : Option V} (hi : Γ[i]? = some (some (nX F.K x o As))) : XF F (tVar i) Γ fun o' Γ' => o' = o ∧ Γ' = Γ.set i none := fun S B H σ e Q q => by
  obtain ⟨v, g1, g2, ⟨g3, _⟩, g4⟩ := e.ok i _ hi
  refine ⟨v, g1, q v S B H o _ As ⟨rfl, rfl⟩ (Ex.refl _) (e.drop i) (Ex.refl _) g3 ⟨⟨fun a m => (g4 a m).1, fun a m => (g4 a m).2, fun a m j s hj => ?_⟩, fun a m => .inl ⟨i, _, hi, m⟩, less_set, fun a m => m⟩⟩
  rcases get_set hj with ⟨rfl, rfl, _⟩ | ⟨hne, hj⟩
  · exact fun z => z
  · exact e.ap i j a _ _ hne hi hj m
theorem xf_varO (hi : Γ[i]? = some (some (.o .lst ds))) : XF F (tVar i) Γ fun o' Γ' => o' = .c .lst (ds.map .d) ∧ Γ' = Γ.set i none := fun S B H σ e Q q => by
  obtain ⟨v, g1, ⟨a, xs, rfl, g3, g4, g5, g6⟩⟩ := e.ok i _ hi
  refine ⟨_, g1, q (.ref a) S B H _ _ [a] ⟨rfl, rfl⟩ (Ex.refl _) (e.drop i) (Ex.refl _) (otr_lst g5 g6) ⟨⟨fun b m => by rw [List.mem_singleton.mp m]; exact g3, fun b m => by rw [List.mem_singleton.mp m]; exact .inr g4, fun b m j s hj => ?_⟩, fun b m => by rw [List.mem_singleton.mp m]; exact .inl ⟨i, _, hi, by rw [g1]; rfl⟩, less_set, fun a m => m⟩⟩
  rw [List.mem_singleton.mp m]
  rcases get_set hj with ⟨rfl, rfl, _⟩ | ⟨hne, hj⟩
  · exact fun z => z
  · exact e.ap i j a _ _ hne hi hj (by rw [g1]; rfl)
/-! #### statements -/
theorem s_asgN (h : XO F te Γ R) (k : ∀ o Γ', R o Γ' → ∀ As, P.nx (Γ'.set i (some (nT F.K o As)))) : SX F (tAsg te (gName i)) Γ P := fun S B H σ D e p =>
  h S B H σ e _ fun v S' B' H' o Γ' A r e' eB t hA => p.nx S' B' H' _ _ (k o Γ' r A) (e'.setG (t := nT F.K o A) ⟨reg_nX, ⟨t, fun u z => by cases z⟩, fun a m => ⟨hA.1 a m, hA.2.1 a m⟩⟩ fun a ha j s hj hs => hA.2.2 a ha j s hs) eB
theorem s_retT (h : XO F te Γ R) (k : ∀ o Γ', R o Γ' → P.ro o Γ') : SX F (tRet te) Γ P := fun S B H σ D e p =>
  h S B H σ e _ fun v S' B' H' o Γ' A r e' eB t hA => p.ro S' B' H' σ Γ' v o A (k o Γ' r) e' eB t hA.1 hA.2.1 hA.2.2
/-- the turn common to all statements that put a value into a thing within a tree: the thing at the place, and the world behind -/
theorem En.putV {sF : Shape} {x : Option V} {v0 : V} {o1 : OD} {u : V} (e1 : En F S B H σ Γ) (hi : Γ[i]? = some (some (nX F.K x o As))) (h0 : σ[i]? = some (some v0)) (hat : AtP H v0 p u) (hg : o.get p = some (.c sF os)) (hA : OwnK F S σ Γ A) (t : OTr F.K B H v o1 A) :
    ∃ a xs A2, u = .ref a ∧ H a = some (ho sF xs) ∧ okS sF xs.length ∧ OTrs F.K B H xs os A2 ∧ (∀ b ∈ A, b ∉ A2) ∧
      ∀ s' xs' os' A5, OTrs F.K B H xs' os' A5 → (∀ b ∈ A5, b ∈ A2 ∨ b ∈ A) → okS s' xs'.length → ∃ As', En F S B (upd H a (ho s' xs')) σ (Γ.set i (some (nX F.K x (o.put p (.c s' os')) As'))) := by
  obtain ⟨_, g1, _, ⟨g3, g3x⟩, g4⟩ := e1.ok i _ hi
  rw [h0] at g1
  cases g1
  obtain ⟨A1, f1, f2, f3⟩ := g3.focus e1.w.ex hat hg
  cases f1 with
  | @c a _ xs _ A3 h1 h2 h3 h4 =>
  have hout : ∀ b ∈ A, b ∉ As := fun b m z => hA.2.2 b m i _ hi z
  have haS := f2 a List.mem_cons_self
  have haA : a ∉ A := fun m => hout a m haS
  refine ⟨a, xs, A3, rfl, h1, h2, h3, fun b m z => hout b m (f2 b (List.mem_cons_of_mem _ z)), fun s' xs' os' A5 k1 k2 k3 => ?_⟩
  obtain ⟨As', r1, r2⟩ := f3 (.c s' os') (a :: A5) B (upd H a (ho s' xs')) (Ex.refl _) (fun b m n => upd_ne fun z => n (by rw [z]; exact List.mem_cons_self)) (c_upd h4 haA k1 k2 k3) fun b m => by
    rcases List.mem_cons.mp m with rfl | m
    · exact .inl List.mem_cons_self
    · exact (k2 b m).imp (fun z => List.mem_cons_of_mem _ z) (hout b)
  have hin : ∀ b ∈ As', b ∈ As ∨ b ∈ A := fun b m => by
    rcases r2 b m with ⟨z, _⟩ | z
    · exact .inl z
    · rcases List.mem_cons.mp z with rfl | z
      · exact .inl haS
      · exact (k2 b z).imp (fun z => f2 b (List.mem_cons_of_mem _ z)) id
  refine ⟨As', e1.move (Y := [a]) hi h0 (fun b m => .inl (by rw [List.mem_singleton.mp m]; exact haS)) (fun b m => by rw [List.mem_singleton.mp m]; exact (g4 a haS).2) (Xs.refl.put (List.mem_singleton.mpr rfl)) (fun _ m => m) (e1.w.put (g4 a haS).1) (Ex.refl _) ⟨reg_nX, ⟨r1, g3x⟩, fun b m => ?_⟩ fun b m => ?_⟩
  · rcases hin b m with z | z
    · exact g4 b z
    · exact ⟨hA.1 b z, hA.2.1 b z⟩
  · rcases hin b m with z | z
    · exact .inl z
    · exact .inr (hA.2.2 b z)
theorem OTr.ex {o1 : OD} (t : OTr K B H v o1 A) (eB : Ex B B') (eH : Ex H H') : OTr K B' H' v o1 A := t.mv eB fun b m => by
  obtain ⟨s, xs, z⟩ := t.at_ b m
  rw [z, eH _ _ z]
/-- where a value goes: a thing within a name's tree -/
structure Into (F : Fr) (tc : TE) (Γ : En0) (s : Shape) (x : Option V) (i : Nat) (o : OD) (p : List Nat) (As : List Addr) (os : List OD) : Prop where
  hi : Γ[i]? = some (some (nX F.K x o As))
  hp : EP F.K tc Γ i p
  hg : o.get p = some (.c s os)
/-- e.f = value -/
theorem s_fldO {C dx : Addr} {fn : List Str} {f : Str} (h : XO F tv Γ R) (hc : Cls F.K C) (hn : NoAttr F.K C f)
    (k : ∀ o' Γ', R o' Γ' → ∃ x i p o As os, Into F ta Γ' (.ins C dx fn) x i o p As os ∧ fn.Nodup ∧ fn.length < 1000 ∧
      ((∃ j, fn[j]? = some f ∧ ∀ As', P.nx (Γ'.set i (some (nX F.K x (o.put p (.c (.ins C dx fn) (os.set j o'))) As')))) ∨ (f ∉ fn ∧ ∀ As', P.nx (Γ'.set i (some (nX F.K x (o.put p (.c (.ins C dx (fn ++ [f])) (os ++ [o']))) As')))))) : SX F (sFld F.K ta tv f) Γ P := fun S B H σ D e pp =>
  h S B H σ e _ fun v S' B' H' o' Γ' A' r e' eB t hA => by
    obtain ⟨x, i, p, o, As, os, ⟨hi, hp, hg⟩, hd, hl, hk⟩ := k o' Γ' r
    obtain ⟨v0, h0, _⟩ := e'.ok i _ hi
    refine e'.evP hp h0 fun u H1 eH e1 hat => ?_
    have t1 := t.ex (Ex.refl _) eH
    obtain ⟨a, xs, A2, rfl, h1, h2, h3, h4, go⟩ := e1.putV hi h0 hat hg hA t1
    have h2' : fn.length = xs.length := h2
    refine ⟨a, C, dx, fn.zip xs, rfl, h1, hc, hn, by rw [List.length_zip]; omega, ?_⟩
    rcases hk with ⟨j, hj, kk⟩ | ⟨hf, kk⟩
    · have hjl := (List.getElem?_eq_some_iff.mp hj).1
      obtain ⟨A5, m1, m2⟩ := h3.setO (j := j) (by have := h3.len; omega) t1 h4
      obtain ⟨As', e2⟩ := go (.ins C dx fn) (xs.set j v) _ A5 m1 m2 (by show fn.length = (xs.set j v).length; rw [List.length_set]; exact h2')
      rw [putF_at hd h2' hj]
      exact pp.nx _ _ _ _ _ (kk As') e2 eB
    · obtain ⟨As', e2⟩ := go (.ins C dx (fn ++ [f])) (xs ++ [v]) _ _ (h3.snoc t1 h4) (fun b m => List.mem_append.mp m) (by show (fn ++ [f]).length = (xs ++ [v]).length; rw [List.length_append, List.length_append, h2']; rfl)
      rw [putF_new h2' hf]
      exact pp.nx _ _ _ _ _ (kk As') e2 eB
/-- e[k] = value, of a list -/
theorem s_setT (h : XO F tv Γ R) (k : ∀ o' Γ', R o' Γ' → ∃ x i p o As os n j, Into F tc Γ' .lst x i o p As os ∧ EE F.K ti Γ' (.int n) ∧ ixN os.length n = some j ∧ ∀ As', P.nx (Γ'.set i (some (nX F.K x (o.put p (.c .lst (os.set j o'))) As')))) : SX F (tAsg tv (gSub tc ti rSetL)) Γ P := fun S B H σ D e pp =>
  h S B H σ e _ fun v S' B' H' o' Γ' A' r e' eB t hA => by
    obtain ⟨x, i, p, o, As, os, n, j, ⟨hi, hp, hg⟩, hn, hj, kk⟩ := k o' Γ' r
    obtain ⟨v0, h0, _⟩ := e'.ok i _ hi
    refine e'.evP hp h0 fun u H1 eH e1 hat => e1.evAx hn rfl fun y B2 H2 eH2 eB2 e2 ry => ?_
    cases ry
    have t1 := t.ex eB2 (eH.trans eH2)
    obtain ⟨a, xs, A2, rfl, h1, h2, h3, h4, go⟩ := e2.putV hi h0 (hat.mono eH2) hg hA t1
    obtain ⟨_, hjl, _⟩ := ixN_seq hj
    obtain ⟨A5, m1, m2⟩ := h3.setO (j := j) hjl t1 h4
    obtain ⟨As', e3⟩ := go .lst (xs.set j v) _ A5 m1 m2 trivial
    exact ⟨a, xs, n, j, rfl, rfl, h1, by rw [h3.len]; exact hj, pp.nx _ _ _ _ _ (kk As') e3 (eB.trans eB2)⟩
theorem Into.isL {x : Option V} (I : Into F tc Γ .lst x i o p As os) (e : En F S B H σ Γ) {v0 u : V} (h0 : σ[i]? = some (some v0)) (hat : AtP H v0 p u) : ∃ a xs, u = .ref a ∧ H a = some (.lst xs) ∧ xs.length = os.length := by
  obtain ⟨_, g1, _, ⟨g3, _⟩, g4⟩ := e.ok i _ I.hi
  rw [h0] at g1
  cases g1
  obtain ⟨A1, f1, f2, f3⟩ := g3.focus e.w.ex hat I.hg
  cases f1 with
  | @c a _ xs _ _ h1 h2 h3 h4 => exact ⟨a, xs, rfl, h1, h3.len⟩
/-- e.append(value) -/
theorem s_appT {x : Option V} (I : Into F tc Γ .lst x i o p As os) (hl : os.length ≤ 40000) (h : XF F tv Γ R) (k : ∀ o' Γ', R o' Γ' → Γ'[i]? = some (some (nX F.K x o As)) ∧ ∀ As', P.nx (Γ'.set i (some (nX F.K x (o.put p (.c .lst (os ++ [o']))) As')))) : SX F (tDrop (tBM F.K "list" rAppend tc (tCons tv tNil))) Γ P := fun S B H σ D e pp => by
  obtain ⟨v0, h0, _⟩ := e.ok i _ I.hi
  refine e.evP I.hp h0 fun u H0 eH0 e0 hat => ?_
  obtain ⟨a0, xs0, rfl, ha0, _⟩ := I.isL e0 h0 hat
  refine ⟨.inl ⟨rfl, _, sq_of ha0⟩, h S B H0 σ e0 _ fun v S' B' H' o' Γ' A' r eH e' eB t hA => ?_⟩
  obtain ⟨gi, kk⟩ := k o' Γ' r
  have hA := hA.own
  obtain ⟨a, xs, A2, ea, h1, h2, h3, h4, go⟩ := e'.putV gi h0 (hat.mono eH) I.hg hA t
  cases ea
  obtain ⟨As', e2⟩ := go .lst (xs ++ [v]) _ _ (h3.snoc t h4) (fun b m => List.mem_append.mp m) trivial
  have hxl := h3.len
  exact ⟨_, xs, v, rfl, rfl, h1, sz_lt (by omega), pp.nx _ _ _ _ _ (kk As') e2 eB⟩
/-- d[k] = value, of a dict of ints -/
theorem s_dputT {ki : List Int} {z : Int} (h : XO F tv Γ R) (k : ∀ o' Γ', R o' Γ' → ∃ x i p o As os, Into F td Γ' (.dK (kI ki)) x i o p As os ∧ ki.Nodup ∧ ki.length ≤ 40000 ∧ EE F.K ty Γ' (.int z) ∧
      ((∃ j, ki[j]? = some z ∧ ∀ As', P.nx (Γ'.set i (some (nX F.K x (o.put p (.c (.dK (kI ki)) (os.set j o'))) As')))) ∨ (z ∉ ki ∧ ∀ As', P.nx (Γ'.set i (some (nX F.K x (o.put p (.c (.dK (kI (ki ++ [z]))) (os ++ [o']))) As')))))) : SX F (sDPut td ty tv) Γ P := fun S B H σ D e pp =>
  h S B H σ e _ fun v S' B' H' o' Γ' A' r e' eB t hA => by
    obtain ⟨x, i, p, o, As, os, ⟨hi, hp, hg⟩, hd, hl, hn, hk⟩ := k o' Γ' r
    obtain ⟨v0, h0, _⟩ := e'.ok i _ hi
    refine e'.evP hp h0 fun u H1 eH e1 hat => e1.evAx hn rfl fun y B2 H2 eH2 eB2 e2 ry => ?_
    cases ry
    have t1 := t.ex eB2 (eH.trans eH2)
    obtain ⟨a, xs, A2, rfl, h1, h2, h3, h4, go⟩ := e2.putV hi h0 (hat.mono eH2) hg hA t1
    have h2' : (kI ki).length = xs.length := h2
    have hkl : (kI ki).length = ki.length := List.length_map ..
    have hsz : ((kI ki).zip xs).length < sizeLine := by
      rw [List.length_zip]
      exact Nat.lt_of_le_of_lt (Nat.min_le_left _ _) (sz_lt (by omega))
    rcases hk with ⟨j, hj, kk⟩ | ⟨hf, kk⟩
    · have hjl := (List.getElem?_eq_some_iff.mp hj).1
      obtain ⟨A5, m1, m2⟩ := h3.setO (j := j) (by have := h3.len; omega) t1 h4
      obtain ⟨As', e3⟩ := go (.dK (kI ki)) (xs.set j v) _ A5 m1 m2 (by show (kI ki).length = (xs.set j v).length; rw [List.length_set]; exact h2')
      refine ⟨a, _, rfl, DPut.k (k := Sum.inl z) h1 hsz, ?_⟩
      rw [put_zipI (kI_nd hd) h2' (kI_at hj)]
      exact pp.nx _ _ _ _ _ (kk As') e3 (eB.trans eB2)
    · obtain ⟨As', e3⟩ := go (.dK (kI (ki ++ [z]))) (xs ++ [v]) _ _ (h3.snoc t1 h4) (fun b m => List.mem_append.mp m) (by show (kI (ki ++ [z])).length = (xs ++ [v]).length; rw [List.length_map, List.length_append, List.length_append, ← h2', hkl]; rfl)
      refine ⟨a, _, rfl, DPut.k (k := Sum.inl z) h1 hsz, ?_⟩
      rw [put_zipN h2' fun y => hf (kI_mem.mp y), show kI ki ++ [Sum.inl z] = kI (ki ++ [z]) by rw [kI, kI, List.map_append]; rfl]
      exact pp.nx _ _ _ _ _ (kk As') e3 (eB.trans eB2)
/-- d[k] = value, of a dict of pairs -/
theorem s_dputTT {kp : List (Int × Int)} {z : Int × Int} (h : XO F tv Γ R) (k : ∀ o' Γ', R o' Γ' → ∃ x i p o As os, Into F td Γ' (.dT (kT kp)) x i o p As os ∧ kp.Nodup ∧ kp.length ≤ 40000 ∧ EE F.K ty Γ' (pairD z) ∧
      ((∃ j, kp[j]? = some z ∧ ∀ As', P.nx (Γ'.set i (some (nX F.K x (o.put p (.c (.dT (kT kp)) (os.set j o'))) As')))) ∨ (z ∉ kp ∧ ∀ As', P.nx (Γ'.set i (some (nX F.K x (o.put p (.c (.dT (kT (kp ++ [z]))) (os ++ [o']))) As')))))) : SX F (sDPut td ty tv) Γ P := fun S B H σ D e pp =>
  h S B H σ e _ fun v S' B' H' o' Γ' A' r e' eB t hA => by
    obtain ⟨x, i, p, o, As, os, ⟨hi, hp, hg⟩, hd, hl, hn, hk⟩ := k o' Γ' r
    obtain ⟨v0, h0, _⟩ := e'.ok i _ hi
    refine e'.evP hp h0 fun u H1 eH e1 hat => e1.evAx hn rfl fun y B2 H2 eH2 eB2 e2 ry => ?_
    obtain ⟨b, rfl, hb⟩ := key_pair ry
    have t1 := t.ex eB2 (eH.trans eH2)
    obtain ⟨a, xs, A2, rfl, h1, h2, h3, h4, go⟩ := e2.putV hi h0 (hat.mono eH2) hg hA t1
    have h2' : (kT kp).length = xs.length := h2
    have hkl : (kT kp).length = kp.length := List.length_map ..
    have hsz : ((kT kp).zip xs).length < sizeLine := by
      rw [List.length_zip]
      exact Nat.lt_of_le_of_lt (Nat.min_le_left _ _) (sz_lt (by omega))
    rcases hk with ⟨j, hj, kk⟩ | ⟨hf, kk⟩
    · have hjl := (List.getElem?_eq_some_iff.mp hj).1
      obtain ⟨A5, m1, m2⟩ := h3.setO (j := j) (by have := h3.len; omega) t1 h4
      obtain ⟨As', e3⟩ := go (.dT (kT kp)) (xs.set j v) _ A5 m1 m2 (by show (kT kp).length = (xs.set j v).length; rw [List.length_set]; exact h2')
      refine ⟨a, _, rfl, DPut.t (k := [Sum.inl z.1, Sum.inl z.2]) h1 (e2.w.ex _ _ hb) hsz, ?_⟩
      rw [put_zipI (kT_nd hd) h2' (kT_at hj)]
      exact pp.nx _ _ _ _ _ (kk As') e3 (eB.trans eB2)
    · obtain ⟨As', e3⟩ := go (.dT (kT (kp ++ [z]))) (xs ++ [v]) _ _ (h3.snoc t1 h4) (fun b m => List.mem_append.mp m) (by show (kT (kp ++ [z])).length = (xs ++ [v]).length; rw [List.length_map, List.length_append, List.length_append, ← h2', hkl]; rfl)
      refine ⟨a, _, rfl, DPut.t (k := [Sum.inl z.1, Sum.inl z.2]) h1 (e2.w.ex _ _ hb) hsz, ?_⟩
      rw [put_zipN h2' fun y => hf (kT_mem.mp y), show kT kp ++ [[Sum.inl z.1, Sum.inl z.2]] = kT (kp ++ [z]) by rw [kT, kT, List.map_append]; rfl]
      exact pp.nx _ _ _ _ _ (kk As') e3 (eB.trans eB2)
end
end Pw

/-! ## PwTm -/
namespace Pw
open PySem L2 Evl
/-! ### objects: made, their methods called; what stands in trees taken out -/
/-- an expression that tells frozen data -/
def ED (F : Fr) (te : TE) (Γ : En0) (d : PyData) : Prop := ∀ S B H σ, En F S B H σ Γ → ∀ Q : VK, (∀ v B' H', Ex H H' → Ex B B' → En F S B' H' σ Γ → Dq F.K B' v d → Q v H') → te σ H Q
def AD (F : Fr) (tA : TA) (Γ : En0) (ds : List PyData) : Prop := ∀ S B H σ, En F S B H σ Γ → ∀ Q : List V → Hp → Prop, (∀ vs B' H', Ex H H' → Ex B B' → En F S B' H' σ Γ → DqAll F.K B' vs ds → Q vs H') → tA σ H Q
section
variable {F : Fr} {K : PySem.W.Frag} {S S' : List Addr} {B B' H H' : Hp} {σ : L2.St} {Γ Γ2 : En0} {i j : Nat} {v u : V} {d d' : PyData} {o sub : OD} {ds es : List PyData} {os : List OD} {a : Addr} {As A : List Addr} {te ta tb ti tc td ty tv : TE} {tt : TT} {tA : TA} {t : TS} {P : Po} {p : List Nat} {R R' : OD → En0 → Prop} {s : Shape} {E : XK}
theorem ed_h (h : EE F.K te (hide Γ) d) : ED F te Γ d := fun S B H σ e Q q => (h σ B e.hidden).bind e.w fun v B' H' eH eB w r => q v B' H' eH eB (e.ext eH eB w) r
theorem ed_a (h : EE F.K te Γ d) (ha : noL d = true) : ED F te Γ d := fun S B H σ e Q q => e.evAx h ha q
/-- data that stand in a tree -/
theorem ed_at {x : Option V} (hi : Γ[i]? = some (some (nX F.K x o As))) (h : EP F.K te Γ i p) (hg : o.get p = some (.d d)) : ED F te Γ d := fun S B H σ e Q q => by
  obtain ⟨v0, h0, g2, g3, g4⟩ := e.ok i _ hi
  refine e.evP h h0 fun u H' eH e' hat => ?_
  obtain ⟨_, g1, _, ⟨k3, _⟩, _⟩ := e'.ok i _ hi
  rw [h0] at g1
  cases g1
  obtain ⟨A1, f1, _⟩ := k3.focus e'.w.ex hat hg
  cases f1 with
  | d f1 => exact q u B H' eH (Ex.refl _) e' f1
theorem ad_nil : AD F tNil Γ [] := fun S B H σ e Q q => q [] B H (Ex.refl _) (Ex.refl _) e .nil
theorem ad_cons (h : ED F ta Γ d) (hr : AD F tA Γ ds) : AD F (tCons ta tA) Γ (d :: ds) := fun S B H σ e Q q => h S B H σ e _ fun v B1 H1 eH1 eB1 e1 r1 => hr S B1 H1 σ e1 _ fun vs B2 H2 eH2 eB2 e2 r2 => q (v :: vs) B2 H2 (eH1.trans eH2) (eB1.trans eB2) e2 (.cons (Dq.mono eB2 r1) r2)
theorem ad_h (h : EA F.K tA (hide Γ) ds) : AD F tA Γ ds := fun S B H σ e Q q => (h σ B e.hidden).bind e.w fun v B' H' eH eB w r => q v B' H' eH eB (e.ext eH eB w) r
theorem xf_ed (h : ED F te Γ d) : XF F te Γ fun o Γ' => o = .d d ∧ Γ' = Γ := fun S B H σ e Q q => h S B H σ e _ fun v B' H' eH eB e' r => q v S B' H' _ Γ [] ⟨rfl, rfl⟩ eH e' eB (.d r) ⟨ownK_nil, fun a m => (List.not_mem_nil m).elim, less_refl, fun a m => m⟩
theorem x_ed (h : ED F te Γ d) : EX F te Γ fun x Γ' => x = d ∧ Γ' = Γ := fun S B H σ e Q q => h S B H σ e _ fun v B' H' eH eB e' r => q v S B' H' d Γ ⟨rfl, rfl⟩ e' eB r
theorem s_asgE (h : ED F te Γ d) (k : P.nx (Γ.set j (some (.d d)))) : SX F (tAsg te (gName j)) Γ P := s_asgX (x_ed h) fun x Γ' ⟨h1, h2⟩ => by subst h1 h2; exact k
theorem s_retE (h : ED F te Γ d) (k : P.rt d Γ) : SX F (tRet te) Γ P := s_retX (x_ed h) fun x Γ' ⟨h1, h2⟩ => by subst h1 h2; exact k
/-- what is told is data -/
theorem x_xo {R0 : PyData → En0 → Prop} (h : XO F te Γ R) (k : ∀ o Γ', R o Γ' → ∃ d, o = .d d ∧ R0 d Γ') : EX F te Γ R0 := fun S B H σ e Q q => h S B H σ e _ fun v S' B' H' o Γ' A r e' eB t hA => by
  obtain ⟨d, rfl, hr⟩ := k o Γ' r
  cases t with
  | d t => exact q v S' B' H' d Γ' hr e' eB t
theorem s_dropO (h : XO F te Γ R) (k : ∀ o Γ', R o Γ' → P.nx Γ') : SX F (tDrop te) Γ P := fun S B H σ D e p => h S B H σ e _ fun v S' B' H' o Γ' A r e' eB t hA => p.nx S' B' H' σ Γ' (k o Γ' r) e' eB
/-- what is frozen, in a row -/
def TqAll (K : PySem.W.Frag) (B : Hp) : List V → List OD → Prop
  | [], [] => True
  | v :: vs, o :: os => TRq K o v B ∧ TqAll K B vs os
  | _, _ => False
theorem TqAll.length {K : PySem.W.Frag} {B : Hp} : ∀ {vs : List V} {os : List OD}, TqAll K B vs os → vs.length = os.length
  | [], [], _ => rfl
  | _ :: _, _ :: _, ⟨_, h⟩ => by rw [List.length_cons, List.length_cons, TqAll.length h]
  | [], _ :: _, h => h.elim
  | _ :: _, [], h => h.elim
theorem TqAll.mono {K : PySem.W.Frag} {B B' : Hp} (e : Ex B B') : ∀ {vs : List V} {os : List OD}, TqAll K B vs os → TqAll K B' vs os
  | [], [], _ => trivial
  | _ :: _, _ :: _, ⟨h1, h2⟩ => ⟨stays_TRq _ _ _ e h1, TqAll.mono e h2⟩
  | [], _ :: _, h => h.elim
  | _ :: _, [], h => h.elim
theorem tq1 {K : PySem.W.Frag} {B : Hp} {vs : List V} {a : OD} (h : TqAll K B vs [a]) : ∃ v1, vs = [v1] ∧ TRq K a v1 B := by
  match vs, h with
  | [v1], ⟨h1, _⟩ => exact ⟨v1, rfl, h1⟩
  | _ :: _ :: _, ⟨_, h⟩ => exact h.elim
theorem tq2 {K : PySem.W.Frag} {B : Hp} {vs : List V} {a b : OD} (h : TqAll K B vs [a, b]) : ∃ v1 v2, vs = [v1, v2] ∧ TRq K a v1 B ∧ TRq K b v2 B := by
  match vs, h with
  | v :: vs, ⟨h1, h⟩ =>
    obtain ⟨v2, rfl, h2⟩ := tq1 h
    exact ⟨v, v2, rfl, h1, h2⟩
theorem tq3 {K : PySem.W.Frag} {B : Hp} {vs : List V} {a b c : OD} (h : TqAll K B vs [a, b, c]) : ∃ v1 v2 v3, vs = [v1, v2, v3] ∧ TRq K a v1 B ∧ TRq K b v2 B ∧ TRq K c v3 B := by
  match vs, h with
  | v :: vs, ⟨h1, h⟩ =>
    obtain ⟨v2, v3, rfl, h2⟩ := tq2 h
    exact ⟨v, v2, v3, rfl, h1, h2⟩
theorem tq4 {K : PySem.W.Frag} {B : Hp} {vs : List V} {a b c d : OD} (h : TqAll K B vs [a, b, c, d]) : ∃ v1 v2 v3 v4, vs = [v1, v2, v3, v4] ∧ TRq K a v1 B ∧ TRq K b v2 B ∧ TRq K c v3 B ∧ TRq K d v4 B := by
  match vs, h with
  | v :: vs, ⟨h1, h⟩ =>
    obtain ⟨v2, v3, v4, rfl, h2⟩ := tq3 h
    exact ⟨v, v2, v3, v4, rfl, h1, h2⟩
theorem tq5 {K : PySem.W.Frag} {B : Hp} {vs : List V} {a b c d e : OD} (h : TqAll K B vs [a, b, c, d, e]) : ∃ v1 v2 v3 v4 v5, vs = [v1, v2, v3, v4, v5] ∧ TRq K a v1 B ∧ TRq K b v2 B ∧ TRq K c v3 B ∧ TRq K d v4 B ∧ TRq K e v5 B := by
  match vs, h with
  | v :: vs, ⟨h1, h⟩ =>
    obtain ⟨v2, v3, v4, v5, rfl, h2⟩ := tq4 h
    exact ⟨v, v2, v3, v4, v5, rfl, h1, h2⟩
theorem TRq.dq {K : PySem.W.Frag} {B : Hp} {v : V} {x : PyData} (h : TRq K (.d x) v B) : Dq K B v x := by
  obtain ⟨As, t⟩ := h
  cases t with
  | d t => exact t
theorem dq_TRq {K : PySem.W.Frag} {B : Hp} {v : V} {x : PyData} (h : Dq K B v x) : TRq K (.d x) v B := ⟨[], .d h⟩
/-- arguments, frozen -/
def ET (K : PySem.W.Frag) (tA : TA) (Γ : En0) (os : List OD) : Prop := ∀ σ B, EnvF K B σ Γ → EvAR tA σ B fun vs B' => TqAll K B' vs os
theorem nfr {H H' : Hp} {a : Addr} (e : Ex H H') (h : H' a = none) : H a = none := by
  cases g : H a with
  | none => rfl
  | some o =>
    rw [e _ _ g] at h
    cases h
/-! #### promises of methods -/
/-- a method that may change its object: the object and the arguments; then the object and what is told -/
def spM (K : PySem.W.Frag) (f : OD → List PyData → (OD → OD → Prop) → Prop) : Sp := fun vs H Q _ => ∃ S B As o ds us v post, vs = v :: us ∧ Wd S B H ∧ (∀ a ∈ As, a ∈ S) ∧ OTr K B H v o As ∧ DqAll K B us ds ∧ f o ds post ∧
  ∀ u B' H' S' As' o' r Ar, post o' r → Xs As H H' → Ex B B' → Wd S' B' H' → (∀ a ∈ S, a ∈ S') → OTr K B' H' v o' As' → (∀ a ∈ As', a ∈ S' ∧ (a ∈ As ∨ H a = none)) → OTr K B' H' u r Ar → (∀ a ∈ Ar, a ∈ S' ∧ (a ∈ As ∨ H a = none) ∧ a ∉ As') → Q u H'
/-- a method that changes nothing and tells data -/
def spMp (K : PySem.W.Frag) (f : OD → List PyData → PyData → Prop) : Sp := fun vs H Q _ => ∃ S B o ds us v d, vs = v :: us ∧ Wd S B H ∧ TRq K o v B ∧ DqAll K B us ds ∧ f o ds d ∧
  ∀ u B' H', Ex H H' → Ex B B' → Wd S B' H' → Dq K B' u d → Q u H'
/-- what is handed in, frozen; what is told is of the caller's own -/
def spT (K : PySem.W.Frag) (f : List OD → (OD → Prop) → Prop) : Sp := fun vs H Q _ => ∃ S B os post, Wd S B H ∧ TqAll K B vs os ∧ f os post ∧
  ∀ r u B' H' S' Ar, post r → Ex H H' → Ex B B' → Wd S' B' H' → (∀ a ∈ S, a ∈ S') → OTr K B' H' u r Ar → (∀ a ∈ Ar, a ∈ S' ∧ H a = none) → Q u H'
theorem fn_meth {post : OD → OD → Prop} {D : Ends} (w : Wd S B H) (hAs : ∀ a ∈ As, a ∈ S) (ht : OTr K B H v o As) (h : SlAll ⟨K, S, B, H, As⟩ S B H σ Γ) (hΓ : (Γ.all fun s => !isO s) = true)
    (hx : SX ⟨K, S, B, H, As⟩ t (some (nX K (some v) o As) :: Γ) { nx := fun Γ' => ∃ o' As', Γ'[0]? = some (some (nX K (some v) o' As')) ∧ post o' (.d .none), rt := fun d Γ' => ∃ o' As', Γ'[0]? = some (some (nX K (some v) o' As')) ∧ post o' (.d d), ro := fun r Γ' => ∃ o' As', Γ'[0]? = some (some (nX K (some v) o' As')) ∧ post o' r })
    (hD : ∀ σ' H', D.rt .non H' → D.nx σ' H')
    (q : ∀ u B' H' S' As' o' r Ar, post o' r → Xs As H H' → Ex B B' → Wd S' B' H' → (∀ a ∈ S, a ∈ S') → OTr K B' H' v o' As' → (∀ a ∈ As', a ∈ S' ∧ (a ∈ As ∨ H a = none)) → OTr K B' H' u r Ar → (∀ a ∈ Ar, a ∈ S' ∧ (a ∈ As ∨ H a = none) ∧ a ∉ As') → D.rt u H') : t D (some v :: σ) H := by
  have h1 : SlAll ⟨K, S, B, H, As⟩ S B H (some v :: σ) (some (nX K (some v) o As) :: Γ) := sl_some (s := nX K (some v) o As) ⟨reg_nX, ⟨ht, fun u e => Option.some.inj e⟩, fun a m => ⟨hAs a m, .inl m⟩⟩ h
  have self : ∀ {S' : List Addr} {B' H' : Hp} {σ' : L2.St} {Γ' : En0} {o' As'}, En ⟨K, S, B, H, As⟩ S' B' H' σ' Γ' → Γ'[0]? = some (some (nX K (some v) o' As')) → OTr K B' H' v o' As' ∧ (∀ a ∈ As', a ∈ S' ∧ (a ∈ As ∨ H a = none)) := fun e hi => by
    obtain ⟨u, g1, g2, ⟨g3, g4⟩, g5⟩ := e.ok 0 _ hi
    rw [g4 v rfl] at g3
    exact ⟨g3, g5⟩
  have key : ∀ {i : Nat} {s : Option Sl}, i ≠ 0 → (some (nX K (some v) o As) :: Γ)[i]? = some s → isO s = true → False := fun {i s} hi h1 h2 => by
    match i, hi, h1 with
    | i + 1, _, h1 =>
      have := List.all_eq_true.mp hΓ s (List.mem_of_getElem? h1)
      rw [h2] at this
      cases this
  refine hx S B H (some v :: σ) D (En.start (F := ⟨K, S, B, H, As⟩) w hAs h1 fun i j hne ⟨s, h1, h2⟩ ⟨s2, h3, h4⟩ => ?_) ⟨fun S' B' H' σ' Γ' ⟨o', As', hi, hp⟩ e eB => hD σ' H' ?_, fun S' B' H' σ' Γ' u d ⟨o', As', hi, hp⟩ e eB hv => ?_, fun S' B' H' σ' Γ' z => z.elim, fun S' B' H' σ' Γ' z => z.elim, fun S' B' H' σ' Γ' u r Ar ⟨o', As', hi, hp⟩ e eB hO hS hF hj => ?_⟩
  · by_cases z : i = 0
    · exact key (fun y => hne (z.trans y.symm)) h3 h4
    · exact key z h1 h2
  · obtain ⟨k1, k2⟩ := self e hi
    exact q .non B' H' S' As' o' _ [] hp e.xH eB e.w (fun a m => e.sub a m) k1 k2 (.d .non) fun a m => (List.not_mem_nil m).elim
  · obtain ⟨k1, k2⟩ := self e hi
    exact q u B' H' S' As' o' _ [] hp e.xH eB e.w (fun a m => e.sub a m) k1 k2 (.d hv) fun a m => (List.not_mem_nil m).elim
  · obtain ⟨k1, k2⟩ := self e hi
    exact q u B' H' S' As' o' _ Ar hp e.xH eB e.w (fun a m => e.sub a m) k1 k2 hO fun a m => ⟨hS a m, hF a m, fun z => hj a m 0 _ hi z⟩
theorem fn_methP {D : Ends} (w : Wd S B H) (ht : TRq K o v B) (h : SlAll ⟨K, S, B, H, []⟩ S B H σ Γ) (hΓ : (Γ.all fun s => !isO s) = true)
    (hx : SX ⟨K, S, B, H, []⟩ t (some (.q (TRq K o)) :: Γ) { nx := fun _ => d = .none, rt := fun d' _ => d' = d }) (hD : ∀ σ' H', D.rt .non H' → D.nx σ' H') (q : ∀ u B' H', Ex H H' → Ex B B' → Wd S B' H' → Dq K B' u d → D.rt u H') : t D (some v :: σ) H := by
  have h1 : SlAll ⟨K, S, B, H, []⟩ S B H (some v :: σ) (some (.q (TRq K o)) :: Γ) := sl_some (s := .q (TRq K o)) ⟨stays_TRq, ht⟩ h
  refine hx S B H (some v :: σ) D (En.start (F := ⟨K, S, B, H, []⟩) w (fun b m => by cases m) h1 (noO fun s m => ?_)) ⟨fun S' B' H' σ' Γ' hd e eB => hD σ' H' ?_, fun S' B' H' σ' Γ' v d' hd e eB hv => ?_, fun S' B' H' σ' Γ' z => z.elim, fun S' B' H' σ' Γ' z => z.elim, fun S' B' H' σ' Γ' a xs ds z => z.elim⟩
  · rcases List.mem_cons.mp m with rfl | m
    · rfl
    · simpa using List.all_eq_true.mp hΓ s m
  · subst hd
    exact q .non B' H' (fun a o g => e.xH a o List.not_mem_nil g) eB (e.w.weak e.sub) .non
  · subst hd
    exact q v B' H' (fun a o g => e.xH a o List.not_mem_nil g) eB (e.w.weak e.sub) hv
theorem fn_T {D : Ends} {post : OD → Prop} (w : Wd S B H) (h : SlAll ⟨K, S, B, H, []⟩ S B H σ Γ) (hΓ : (Γ.all fun s => !isO s) = true)
    (hx : SX ⟨K, S, B, H, []⟩ t Γ { nx := fun _ => False, rt := fun d' _ => post (.d d'), ro := fun r' _ => post r' }) (q : ∀ r u B' H' S' Ar, post r → Ex H H' → Ex B B' → Wd S' B' H' → (∀ a ∈ S, a ∈ S') → OTr K B' H' u r Ar → (∀ a ∈ Ar, a ∈ S' ∧ H a = none) → D.rt u H') : t D σ H := by
  refine hx S B H σ D (En.start (F := ⟨K, S, B, H, []⟩) w (fun b m => by cases m) h (noO fun s m => by simpa using List.all_eq_true.mp hΓ s m)) ⟨fun S' B' H' σ' Γ' z => z.elim, fun S' B' H' σ' Γ' v d' hd e eB hv => ?_, fun S' B' H' σ' Γ' z => z.elim, fun S' B' H' σ' Γ' z => z.elim, fun S' B' H' σ' Γ' v r' A hd e eB hO hS hF hj => ?_⟩
  · exact q _ v B' H' S' [] hd (fun a o g => e.xH a o List.not_mem_nil g) eB e.w (fun a m => e.sub a m) (.d hv) fun a m => (List.not_mem_nil m).elim
  · exact q _ v B' H' S' A hd (fun a o g => e.xH a o List.not_mem_nil g) eB e.w (fun a m => e.sub a m) hO fun a m => ⟨hS a m, (hF a m).resolve_left List.not_mem_nil⟩
/-! #### calls -/
theorem lookup_none {fn : List Str} {xs : List V} {m : Str} (h : m ∉ fn) : (fn.zip xs).lookup m = none := by
  induction fn generalizing xs with
  | nil => rfl
  | cons g fn ih =>
    match xs with
    | [] => rfl
    | x :: xs =>
      have hne : ¬ m = g := fun z => h (z ▸ List.mem_cons_self)
      rw [List.zip_cons_cons, List.lookup_cons, beq_eq_false_iff_ne.mpr hne]
      exact ih fun z => h (List.mem_cons_of_mem _ z)
theorem n_methP {C dx : Addr} {fn : List Str} {m : Str} {f : OD → List PyData → PyData → Prop} (hi : IsT K Γ i o) (hp : EP K ta Γ i p) (hg : o.get p = some (.c (.ins C dx fn) os)) (hm : m ∉ fn) (ha : EA K tA Γ ds) (hf : f (.c (.ins C dx fn) os) ds d) : EE K (tMeth C m (spMp K f) [] E ta tA) Γ d := fun σ B e => by
  obtain ⟨v0, h0⟩ := e.treeV hi
  refine evR_of (fun S H w Q q => (hp σ B e v0 h0).bind w fun u B1 H1 e1 eB1 w1 hat => ?_) stays_dp
  obtain ⟨A1, t⟩ := e.tree hi h0 eB1 hat hg
  cases id t with
  | @c a _ xs _ A0 h1 h2 h3 h4 =>
  refine ⟨a, dx, fn.zip xs, rfl, w1.ex _ _ h1, lookup_none hm, ((ha σ B e).mono eB1).bind w1 fun vs B2 H2 e2 eB2 w2 rs => ?_⟩
  exact ⟨S, B2, _, ds, vs, .ref a, d, by rw [List.append_nil], w2, ⟨_, stays_TRq _ _ _ eB2 ⟨_, t⟩ |>.choose_spec⟩, rs, hf, fun u B3 H3 e3 eB3 w3 r => q u B3 H3 (e1.trans (e2.trans e3)) (eB1.trans (eB2.trans eB3)) w3 r⟩
/-- a call of a method that may change its object, which stands within a name's tree -/
theorem xo_meth {C dx : Addr} {fn : List Str} {m : Str} {x : Option V} {f : OD → List PyData → (OD → OD → Prop) → Prop} {post : OD → OD → Prop} (I : Into F ta Γ (.ins C dx fn) x i o p As os) (hm : m ∉ fn) (ha : AD F tA Γ ds) (hf : f (.c (.ins C dx fn) os) ds post) :
    XO F (tMeth C m (spM F.K f) [] E ta tA) Γ fun r Γ' => ∃ o' As', post o' r ∧ Γ' = Γ.set i (some (nX F.K x (o.put p o') As')) := fun S B H σ e Q q => by
  obtain ⟨v0, h0, _⟩ := e.ok i _ I.hi
  refine e.evP I.hp h0 fun u H1 eH1 e1 hat => ?_
  have hty : ∃ a xs, u = .ref a ∧ H1 a = some (.ins C dx (fn.zip xs)) := by
    obtain ⟨_, g1, _, ⟨g3, _⟩, _⟩ := e1.ok i _ I.hi
    rw [h0] at g1
    cases g1
    obtain ⟨A1, f1, _⟩ := g3.focus e1.w.ex hat I.hg
    cases f1 with
    | @c a _ xs _ _ h1 h2 h3 h4 => exact ⟨a, xs, rfl, h1⟩
  obtain ⟨a, xs, rfl, hins⟩ := hty
  refine ⟨a, dx, _, rfl, hins, lookup_none hm, ha S B H1 σ e1 _ fun vs B2 H2 eH2 eB2 e2 rs => ?_⟩
  obtain ⟨_, g1, _, ⟨g3, g3x⟩, g4⟩ := e2.ok i _ I.hi
  rw [h0] at g1
  cases g1
  obtain ⟨A1, f1, f2, f3⟩ := g3.focus e2.w.ex (hat.mono eH2) I.hg
  refine ⟨S, B2, A1, _, ds, vs, .ref a, post, by rw [List.append_nil], e2.w, fun b m => (g4 b (f2 b m)).1, f1, rs, hf, fun u B3 H3 S3 A2 o' r Ar hpost xH eB3 w3 hSS t1 hA2 t2 hAr => ?_⟩
  have fresh : ∀ {b}, H2 b = none → ∀ (j : Nat) (s : Option Sl), Γ[j]? = some s → ¬ ownA σ[j]? s b := fun hb j s hj => e2.notOwn hb hj
  obtain ⟨As', r1, r2⟩ := f3 o' A2 B3 H3 eB3 (fun b m n => by
    obtain ⟨s, ys, z⟩ := g3.at_ b m
    rw [z, xH b _ n z]) t1 fun b m => (hA2 b m).2.imp id fun z y => by
      obtain ⟨s, ys, k⟩ := g3.at_ b y
      rw [z] at k
      cases k
  have hin : ∀ b ∈ As', b ∈ As ∨ H2 b = none := fun b m => by
    rcases r2 b m with ⟨z, _⟩ | z
    · exact .inl z
    · exact (hA2 b z).2.imp (f2 b) id
  have hS' : ∀ b ∈ As', b ∈ S3 := fun b m => by
    rcases r2 b m with ⟨z, _⟩ | z
    · exact hSS b (g4 b z).1
    · exact (hA2 b z).1
  refine q u S3 B3 H3 r _ Ar ⟨o', As', hpost, rfl⟩ (e2.move (Y := A1) I.hi h0 (fun b m => .inl (f2 b m)) (fun b m => (g4 b (f2 b m)).2) xH hSS w3 eB3 ⟨reg_nX, ⟨r1, g3x⟩, fun b m => ⟨hS' b m, ?_⟩⟩ fun b m => ?_) (eB2.trans eB3) t2 ⟨fun b m => (hAr b m).1, fun b m => ?_, fun b m j s hj => ?_⟩
  · rcases hin b m with z | z
    · exact (g4 b z).2
    · exact .inr (e2.freshH z)
  · exact (hin b m).imp id fun z => fresh z
  · rcases (hAr b m).2.1 with z | z
    · exact (g4 b (f2 b z)).2
    · exact .inr (e2.freshH z)
  · rcases get_set hj with ⟨rfl, rfl, _⟩ | ⟨hne, hj⟩
    · intro z
      rcases r2 b z with ⟨y1, y2⟩ | y
      · rcases (hAr b m).2.1 with k | k
        · exact y2 k
        · exact fresh k i _ I.hi y1
      · exact (hAr b m).2.2 y
    · rcases (hAr b m).2.1 with k | k
      · exact e2.ap i j b _ _ hne I.hi hj (f2 b k)
      · exact fresh k j s hj
/-- a new object -/
theorem xo_make {C : Addr} {f : OD → List PyData → (OD → OD → Prop) → Prop} {post : OD → OD → Prop} (ha : AD F tA Γ ds) (hf : ∀ dx, f (.c (.ins C dx []) []) ds post) (hp : ∀ o' r, post o' r → r = .d .none) : XF F (tMake C (spM F.K f) [] E tA) Γ fun o' Γ' => post o' (.d .none) ∧ Γ' = Γ := fun S B H σ e Q q =>
  ha S B H σ e _ fun vs B1 H1 eH1 eB1 e1 rs x dx hx hdx hne => by
    have hxne : x ≠ dx := Ne.symm hne
    have hH2 : ∀ {b : Addr}, upd (upd H1 dx (.own x)) x (.ins C dx []) b = none → H1 b = none := fun {b} h => by
      by_cases z : b = x
      · rw [z]; exact hx
      · rw [upd_ne z] at h
        by_cases y : b = dx
        · rw [y]; exact hdx
        · rw [upd_ne y] at h
          exact h
    have eH2 : Ex H1 (upd (upd H1 dx (.own x)) x (.ins C dx [])) := (Ex.new hdx).trans (Ex.new (by rw [upd_ne hxne]; exact hx))
    have w2 : Wd (x :: S) B1 (upd (upd H1 dx (.own x)) x (.ins C dx [])) := by
      have w1 : Wd S B1 (upd H1 dx (.own x)) := e1.w.ext (Ex.new hdx)
      exact w1.own (by rw [upd_ne hxne]; exact hx)
    have nS : x ∉ S := e1.w.nin hx
    refine ⟨x :: S, B1, [x], _, ds, vs, .ref x, post, by rw [List.append_nil], w2, fun b m => by rw [List.mem_singleton.mp m]; exact List.mem_cons_self, .c (s := .ins C dx []) (xs := []) upd_same rfl .nil (fun m => by cases m), rs, hf dx, fun u B3 H3 S3 A2 o' r Ar hpost xH eB3 w3 hSS t1 hA2 t2 hAr => ?_⟩
    have er := hp o' r hpost
    subst er
    cases t2 with
    | d t2 =>
    cases t2
    have eH3 : Ex H1 H3 := fun b o g => xH b o (fun z => by rw [List.mem_singleton.mp z, hx] at g; cases g) (eH2 b o g)
    have e3 : En F S3 B3 H3 σ Γ := by
      refine ⟨w3, fun b m => hSS b (List.mem_cons_of_mem _ (e1.sub b m)), e1.eB.trans eB3, e1.xH.trans (Xs.of eH3), e1.fb, e1.hb0, e1.len, fun j s h => ?_, e1.ap⟩
      obtain ⟨v, g1, g2⟩ := e1.ok j s h
      exact ⟨v, g1, g2.ext eH3 eB3 fun b m => hSS b (List.mem_cons_of_mem _ m)⟩
    have hfr : ∀ b ∈ A2, H1 b = none := fun b m => by
      rcases (hA2 b m).2 with z | z
      · rw [List.mem_singleton.mp z]; exact hx
      · exact hH2 z
    exact ⟨rfl, q (.ref x) S3 B3 H3 o' Γ A2 ⟨hpost, rfl⟩ (eH1.trans eH3) e3 (eB1.trans eB3) t1 ⟨e1.freshK (fun b m => (hA2 b m).1) hfr, fun b m => .inr (nfr eH1 (hfr b m)), less_refl, fun b m => hSS b (List.mem_cons_of_mem _ m)⟩⟩
/-- a def that tells a thing of one's own, of data -/
theorem xf_call {f : List OD → (OD → Prop) → Prop} {post : OD → Prop} (ha : ET F.K tA (hide Γ) os) (hf : f os post) : XF F (tCall (spT F.K f) [] E tA) Γ fun r Γ' => post r ∧ Γ' = Γ := fun S B H σ e Q q =>
  (ha σ B e.hidden).bind e.w fun vs B1 H1 eH1 eB1 w1 rs => ⟨S, B1, os, post, w1, by rw [List.append_nil]; exact rs, hf, fun r u B2 H2 S2 Ar hr eH2 eB2 w2 hSS t hAr => by
    have e1 := e.ext eH1 eB1 w1
    have e2 : En F S2 B2 H2 σ Γ := by
      refine ⟨w2, fun b m => hSS b (e1.sub b m), e1.eB.trans eB2, e1.xH.trans (Xs.of eH2), e1.fb, e1.hb0, e1.len, fun j s h => ?_, e1.ap⟩
      obtain ⟨v, g1, g2⟩ := e1.ok j s h
      exact ⟨v, g1, g2.ext eH2 eB2 hSS⟩
    exact q u S2 B2 H2 r Γ Ar ⟨hr, rfl⟩ (eH1.trans eH2) e2 (eB1.trans eB2) t ⟨e1.freshK (fun b m => (hAr b m).1) fun b m => (hAr b m).2, fun b m => .inr (nfr eH1 (hAr b m).2), less_refl, hSS⟩⟩
mutual
/-- no lists among its data -/
def OD.lf : OD → Bool
  | .d x => noL x
  | .c _ os => lfs os
  | .t os => lfs os
def lfs : List OD → Bool
  | [] => true
  | o :: os => o.lf && lfs os
end
theorem lfs_d (ds : List PyData) : lfs (ds.map .d) = noLs ds := by
  induction ds with
  | nil => unfold lfs; rfl
  | cons d ds ih =>
    rw [List.map_cons, noLs]
    unfold lfs OD.lf
    rw [ih]
mutual
theorem OTr.noL {S1 : List Addr} (hS : ∀ t ∈ S, t ∉ S1 → ∃ s xs, H t = some (ho s xs)) : ∀ {v : V} {o : OD} {As : List Addr}, OTr K (mi H S1) H v o As → o.lf = true → OTr K (mi H S) H v o As
  | _, _, _, .d h, hl => .d (Dq.noL hS h (by unfold OD.lf at hl; exact hl))
  | _, _, _, .c h1 h2 h3 h4, hl => .c h1 h2 (OTrs.noL hS h3 (by unfold OD.lf at hl; exact hl)) h4
  | _, _, _, .t (a := a) (xs := xs) h1 h2, hl => by
    have hn : a ∉ S1 := fun m => by rw [mi_no m] at h1; cases h1
    rw [mi_at hn] at h1
    have hn2 : a ∉ S := fun m => by
      obtain ⟨s, ys, e⟩ := hS a m hn
      rw [h1] at e
      cases s <;> cases e
    exact .t (by rw [mi_at hn2]; exact h1) (OTrs.noL hS h2 (by unfold OD.lf at hl; exact hl))
theorem OTrs.noL {S1 : List Addr} (hS : ∀ t ∈ S, t ∉ S1 → ∃ s xs, H t = some (ho s xs)) : ∀ {vs : List V} {os : List OD} {As : List Addr}, OTrs K (mi H S1) H vs os As → lfs os = true → OTrs K (mi H S) H vs os As
  | _, _, _, .nil, _ => .nil
  | _, _, _, .cons h1 h2 h3, hl => by
    unfold lfs at hl
    rw [Bool.and_eq_true] at hl
    exact .cons (OTr.noL hS h1 hl.1) (OTrs.noL hS h2 hl.2) h3
end
/-- a def that reads what is one's own -/
theorem xf_callA {f : List OD → (OD → Prop) → Prop} {post : OD → Prop} (ha : ET F.K tA Γ os) (hf : f os post) (hn : ∀ r, post r → r.lf = true) : XF F (tCall (spT F.K f) [] E tA) Γ fun r Γ' => post r ∧ Γ' = Γ := fun S B H σ e Q q => by
  obtain ⟨S1, B1, hsub, w1, eB, hS, hE⟩ := e.frz2
  refine (ha σ B1 hE).bind w1 fun vs B2 H2 eH2 eB2 w2 rs => ⟨S1, B2, os, post, w2, by rw [List.append_nil]; exact rs, hf, fun r u B3 H3 S3 Ar hr eH3 eB3 w3 hSS t hAr => ?_⟩
  have eH : Ex H H3 := eH2.trans eH3
  have hfr : ∀ a ∈ Ar, H a = none := fun a m => nfr eH2 (hAr a m).2
  have t1 : OTr F.K (mi H3 (Ar ++ S1)) H3 u r Ar := t.mv (ex_mi w3.ex fun b m => w3.no b ((List.mem_append.mp m).elim (fun m => (hAr b m).1) (hSS b))) fun _ _ => rfl
  have t2 : OTr F.K (mi H3 (Ar ++ S)) H3 u r Ar := t1.noL (fun b m n => by
    rcases List.mem_append.mp m with m | m
    · exact absurd (List.mem_append_left _ m) n
    · obtain ⟨s, xs, z⟩ := hS b m fun y => n (List.mem_append_right _ y)
      exact ⟨s, xs, eH _ _ z⟩) (hn r hr)
  have w' : Wd (Ar ++ S) (mi H3 (Ar ++ S)) H3 := ⟨mi_ex, fun b m => mi_no m, fun b m => by
    rcases List.mem_append.mp m with m | m
    · obtain ⟨s, xs, z⟩ := t.at_ b m
      exact ⟨_, z⟩
    · obtain ⟨o, ho⟩ := e.w.at_ b m
      exact ⟨o, eH _ _ ho⟩⟩
  have eB' : Ex B (mi H3 (Ar ++ S)) := ex_mi (e.w.ex.trans eH) fun b m => by
    rcases List.mem_append.mp m with m | m
    · exact e.w.fresh (hfr b m)
    · exact e.w.no b m
  have e2 : En F (Ar ++ S) (mi H3 (Ar ++ S)) H3 σ Γ := by
    refine ⟨w', fun b m => List.mem_append_right _ (e.sub b m), e.eB.trans eB', e.xH.trans (Xs.of eH), e.fb, e.hb0, e.len, fun j s h => ?_, e.ap⟩
    obtain ⟨v, g1, g2⟩ := e.ok j s h
    exact ⟨v, g1, g2.ext eH eB' fun b m => List.mem_append_right _ m⟩
  exact q u (Ar ++ S) _ H3 r Γ Ar ⟨hr, rfl⟩ eH e2 eB' t2 ⟨e.freshK (fun b m => List.mem_append_left _ m) hfr, fun b m => .inr (hfr b m), less_refl, fun b m => List.mem_append_right _ m⟩
/-- .. as a part of an expression: what is told is frozen at once -/
theorem n_callT {f : List OD → (OD → Prop) → Prop} {post : OD → Prop} (ha : ET K tA Γ os) (hf : f os post) (hn : ∀ r, post r → r.asD = some d) : EE K (tCall (spT K f) [] E tA) Γ d := fun σ B e =>
  evR_of (fun S H w Q q => (ha σ B e).bind w fun vs B1 H1 eH1 eB1 w1 rs => ⟨S, B1, os, post, w1, by rw [List.append_nil]; exact rs, hf, fun r u B2 H2 S2 Ar hr eH2 eB2 w2 hSS t hAr => by
    have w3 : Wd S (mi H2 S) H2 := w1.step eH2
    have eB3 : Ex B1 (mi H2 S) := w1.stepE eH2
    have t2 : OTr K (mi H2 S) (mi H2 S) u r Ar := t.mv (ex_mi w2.ex fun b m => w2.no b (hSS b m)) fun b m => mi_at fun z => by
      obtain ⟨o, ho⟩ := w1.at_ b z
      rw [(hAr b m).2] at ho
      cases ho
    exact q u _ H2 (eH1.trans eH2) (eB1.trans eB3) w3 (t2.data (hn r hr))⟩) stays_dp
theorem et_nil : ET K tNil Γ [] := fun σ B e S H w Q q => q [] H (Ex.refl H) trivial
theorem et_cons (h : ER K ta Γ (TRq K o)) (hr : ET K tA Γ os) : ET K (tCons ta tA) Γ (o :: os) := fun σ B e S H w Q q =>
  (h σ B e).bind w fun v B1 H1 e1 eB1 w1 r1 => ((hr σ B e).mono eB1).bind w1 fun vs B2 H2 e2 eB2 w2 r2 => q (v :: vs) H2 (e1.trans e2) ⟨stays_TRq _ _ _ (ex_mi w2.ex w2.no) (stays_TRq _ _ _ eB2 r1), r2.mono (ex_mi w2.ex w2.no)⟩
theorem et_d (h : EE K te Γ d) : ER K te Γ (TRq K (.d d)) := fun σ B e => (h σ B e).imp fun v B' r => dq_TRq r
theorem et_at (h : EP K te Γ i p) (hi : IsT K Γ i o) (hg : o.get p = some sub) : ER K te Γ (TRq K sub) := fun σ B e => by
  obtain ⟨v0, h0⟩ := e.treeV hi
  refine evR_of (fun S H w Q q => (h σ B e v0 h0).bind w fun v B1 H1 e1 eB1 w1 r1 => ?_) stays_TRq
  exact q v B1 H1 e1 eB1 w1 (e.tree hi h0 eB1 r1 hg)
theorem et_o (h : Γ[i]? = some (some (.o s ds))) (hl : okS s ds.length) : ER K (tVar i) Γ (TRq K (.c s (ds.map .d))) := fun σ B e => by
  obtain ⟨v, h1, ⟨a, xs, rfl, h2, h3⟩⟩ := e.ok i _ h
  refine evR_of (fun S H w Q q => ⟨_, h1, q (.ref a) B H (Ex.refl H) (Ex.refl B) w ⟨[a], .c h2 ?_ (OTrs.ofD h3) fun m => by cases m⟩⟩) stays_TRq
  rw [DqAll.length h3]
  exact hl
theorem dqs_tq {K : PySem.W.Frag} {B : Hp} : ∀ {vs : List V} {ds : List PyData}, DqAll K B vs ds → TqAll K B vs (ds.map .d)
  | _, _, .nil => trivial
  | _, _, .cons h1 h2 => ⟨dq_TRq h1, dqs_tq h2⟩
theorem et_all (h : EA K tA Γ ds) : ET K tA Γ (ds.map .d) := fun σ B e S H w Q q => h σ B e S H w Q fun vs H' eH r => q vs H' eH (dqs_tq r)
end
end Pw

/-! ## PwTs -/
namespace Pw
open PySem L2 Evl
/-! ### trees of own things, more: tuples of them, rows of empty ones, what is taken out -/
section
variable {F : Fr} {K : PySem.W.Frag} {S S' : List Addr} {B B' H H' : Hp} {σ : L2.St} {Γ Γ1 Γ2 : En0} {i j k : Nat} {v u : V} {d d' : PyData} {o o1 o2 sub : OD} {ds es : List PyData} {os : List OD} {a : Addr} {As A : List Addr} {te ta tb ti tc td ty tv : TE} {tt : TT} {tA : TA} {wi : TI} {g : TG} {t : TS} {P : Po} {p : List Nat} {R R' R1 : OD → En0 → Prop} {s : Shape} {E : XK} {x : Option V}
/-- arguments that may be one's own -/
def XA (F : Fr) (tA : TA) (Γ : En0) (R : List OD → En0 → Prop) : Prop := ∀ S B H σ, En F S B H σ Γ → ∀ Q : List V → Hp → Prop, (∀ vs S' B' H' os Γ' A, R os Γ' → Ex H H' → En F S' B' H' σ Γ' → Ex B B' → OTrs F.K B' H' vs os A → XFok F S S' H σ Γ Γ' A → Q vs H') → tA σ H Q
theorem xa_nil : XA F tNil Γ fun os Γ' => os = [] ∧ Γ' = Γ := fun S B H σ e Q q => q [] S B H [] Γ [] ⟨rfl, rfl⟩ (Ex.refl _) e (Ex.refl _) .nil ⟨ownK_nil, fun a m => (List.not_mem_nil m).elim, less_refl, fun a m => m⟩
theorem xa_cons {Rs : OD → En0 → List OD → En0 → Prop} (h : XF F ta Γ R) (hr : ∀ o Γ1, R o Γ1 → XA F tA Γ1 (Rs o Γ1)) : XA F (tCons ta tA) Γ fun os Γ' => ∃ o Γ1 os', os = o :: os' ∧ R o Γ1 ∧ Rs o Γ1 os' Γ' := fun S B H σ e Q q =>
  h S B H σ e _ fun v S1 B1 H1 o Γ1 A1 r eH1 e1 eB1 t1 k1 => hr o Γ1 r S1 B1 H1 σ e1 _ fun vs S2 B2 H2 os Γ2 A2 rs eH2 e2 eB2 t2 k2 => by
    have old : ∀ a, (∃ (j : Nat) (s : Option Sl), Γ1[j]? = some s ∧ ownA σ[j]? s a) → ∃ (j : Nat) (s : Option Sl), Γ[j]? = some s ∧ ownA σ[j]? s a := fun a ⟨j, s, hj, ho⟩ => by
      rcases k1.less j s hj with rfl | h
      · exact ho.elim
      · exact ⟨j, s, h, ho⟩
    have dis : ∀ a ∈ A1, a ∉ A2 := fun a m z => by
      rcases k2.src a z with ⟨j, s, hj, ho⟩ | hn
      · exact k1.own.2.2 a m j s hj ho
      · obtain ⟨s, xs, y⟩ := t1.at_ a m
        rw [hn] at y
        cases y
    refine q (v :: vs) S2 B2 H2 (o :: os) Γ2 (A1 ++ A2) ⟨o, Γ1, os, rfl, r, rs⟩ (eH1.trans eH2) e2 (eB1.trans eB2) (.cons (t1.ex eB2 eH2) t2 dis) ⟨⟨fun a m => ?_, fun a m => ?_, fun a m j s hj => ?_⟩, fun a m => ?_, less_trans k1.less k2.less, fun a m => k2.sub a (k1.sub a m)⟩
    · rcases List.mem_append.mp m with m | m
      · exact k2.sub a (k1.own.1 a m)
      · exact k2.own.1 a m
    · rcases List.mem_append.mp m with m | m
      · exact k1.own.2.1 a m
      · exact k2.own.2.1 a m
    · rcases List.mem_append.mp m with m | m
      · rcases k2.less j s hj with rfl | h
        · exact fun z => z
        · exact k1.own.2.2 a m j s h
      · exact k2.own.2.2 a m j s hj
    · rcases List.mem_append.mp m with m | m
      · exact k1.src a m
      · exact (k2.src a m).imp (old a) fun z => nfr eH1 z
/-- (e, f, ..) with things of one's own -/
theorem xf_tup {Rs : List OD → En0 → Prop} (h : XA F tA Γ Rs) (hl : ∀ os Γ', Rs os Γ' → os.length ≤ 1000) : XF F (tTup tA) Γ fun o Γ' => ∃ os, o = .t os ∧ Rs os Γ' := fun S B H σ e Q q =>
  h S B H σ e _ fun vs S1 B1 H1 os Γ1 A r eH e1 eB t k => ⟨by
    have := hl os Γ1 r
    rw [t.len]
    exact Nat.le_trans this (by decide), fun p hp => by
    have w2 : Wd S1 (upd B1 p (.tup vs)) (upd H1 p (.tup vs)) := e1.w.new hp
    have eB2 : Ex B1 (upd B1 p (.tup vs)) := e1.w.newE hp
    have eH2 : Ex H1 (upd H1 p (.tup vs)) := Ex.new hp
    exact q (.ref p) S1 _ _ (.t os) Γ1 A ⟨os, rfl, r⟩ (eH.trans eH2) (e1.ext eH2 eB2 w2) (eB.trans eB2) (.t upd_same (t.mv eB2 fun a m => by
      obtain ⟨s, xs, z⟩ := t.at_ a m
      rw [z, eH2 _ _ z])) k⟩
theorem xa_1 (h : XF F ta Γ R) : XA F (tCons ta tNil) Γ fun os Γ' => ∃ o, os = [o] ∧ R o Γ' := fun S B H σ e Q q =>
  xa_cons (Rs := fun _ Γ1 os Γ' => os = [] ∧ Γ' = Γ1) h (fun o Γ1 _ => xa_nil) S B H σ e Q fun vs S' B' H' os Γ' A ⟨o, Γ1, os', e1, r, e2, e3⟩ => by
    subst e1 e2 e3
    exact q vs S' B' H' _ _ A ⟨o, rfl, r⟩
theorem xa_a {Rs : List OD → En0 → Prop} (h : EE F.K ta Γ d) (hn : noL d = true) (hr : XA F tA Γ Rs) : XA F (tCons ta tA) Γ fun os Γ' => ∃ os', os = .d d :: os' ∧ Rs os' Γ' := fun S B H σ e Q q =>
  xa_cons (Rs := fun _ Γ1 os Γ' => Rs os Γ') (xf_a h hn) (fun o Γ1 ⟨_, e⟩ => by subst e; exact hr) S B H σ e Q fun vs S' B' H' os Γ' A ⟨o, Γ1, os', e1, ⟨e2, e3⟩, r⟩ => by
    subst e1 e2 e3
    exact q vs S' B' H' _ _ A ⟨_, rfl, r⟩
/-- a name that is a tree or a list of one's own -/
def IsOwn (K : PySem.W.Frag) (Γ : En0) (i : Nat) (o : OD) : Prop := (∃ x As, Γ[i]? = some (some (nX K x o As))) ∨ ∃ ds, Γ[i]? = some (some (.o .lst ds)) ∧ o = .c .lst (ds.map .d)
theorem io_n (h : Γ[i]? = some (some (nX K x o As))) : IsOwn K Γ i o := .inl ⟨x, As, h⟩
theorem io_o (h : Γ[i]? = some (some (.o .lst ds))) : IsOwn K Γ i (.c .lst (ds.map .d)) := .inr ⟨ds, h, rfl⟩
theorem IsOwn.less (h : IsOwn K Γ j o) (hij : i ≠ j) : IsOwn K (Γ.set i none) j o := by
  rcases h with ⟨x, As, h⟩ | ⟨ds, h, e⟩
  · exact .inl ⟨x, As, by rw [List.getElem?_set_ne hij]; exact h⟩
  · exact .inr ⟨ds, by rw [List.getElem?_set_ne hij]; exact h, e⟩
theorem xf_name (h : IsOwn F.K Γ i o) : XF F (tVar i) Γ fun o' Γ' => o' = o ∧ Γ' = Γ.set i none := by
  rcases h with ⟨x, As, h⟩ | ⟨ds, h, rfl⟩
  · exact xf_var h
  · exact xf_varO h
theorem XF.imp (h : XF F te Γ R) (k : ∀ o Γ', R o Γ' → R' o Γ') : XF F te Γ R' := fun S B H σ e Q q => h S B H σ e Q fun v S' B' H' o Γ' A r => q v S' B' H' o Γ' A (k o Γ' r)
theorem XA.imp {R R' : List OD → En0 → Prop} (h : XA F tA Γ R) (k : ∀ o Γ', R o Γ' → R' o Γ') : XA F tA Γ R' := fun S B H σ e Q q => h S B H σ e Q fun v S' B' H' o Γ' A r => q v S' B' H' o Γ' A (k o Γ' r)
/-- (x, y), both of one's own -/
theorem xf_pair (hij : i ≠ j) (h1 : IsOwn F.K Γ i o1) (h2 : IsOwn F.K Γ j o2) : XF F (tTup (tCons (tVar i) (tCons (tVar j) tNil))) Γ fun o Γ' => o = .t [o1, o2] ∧ Γ' = (Γ.set i none).set j none :=
  (xf_tup (Rs := fun os Γ' => os = [o1, o2] ∧ Γ' = (Γ.set i none).set j none) ((xa_cons (Rs := fun _ _ os Γ' => os = [o2] ∧ Γ' = (Γ.set i none).set j none) (xf_name h1) fun o Γ1 ⟨_, e⟩ => by
    subst e
    exact (xa_cons (Rs := fun _ Γ1 os Γ' => os = [] ∧ Γ' = Γ1) (xf_name (h2.less hij)) fun o Γ1 _ => xa_nil).imp fun os Γ' ⟨o', Γ1, os', e1, ⟨e2, e3⟩, e4, e5⟩ => by
      subst e1 e2 e3 e4 e5
      exact ⟨rfl, rfl⟩).imp fun os Γ' ⟨o', Γ1, os', e1, ⟨e2, e3⟩, e4, e5⟩ => by
    subst e1 e2 e4 e5
    exact ⟨rfl, rfl⟩) fun os Γ' ⟨e, _⟩ => by subst e; show 2 ≤ 1000; decide).imp fun o Γ' ⟨os, e1, e2, e3⟩ => by
    subst e1 e2
    exact ⟨rfl, e3⟩
/-- [e, f, ..] with things of one's own -/
theorem xf_lst {Rs : List OD → En0 → Prop} (h : XA F tA Γ Rs) (hl : ∀ os Γ', Rs os Γ' → os.length ≤ 1000) : XF F (tLst tA) Γ fun o Γ' => ∃ os, o = .c .lst os ∧ Rs os Γ' := fun S B H σ e Q q =>
  h S B H σ e _ fun vs S1 B1 H1 os Γ1 A r eH e1 eB t k => ⟨by
    have := hl os Γ1 r
    rw [t.len]
    exact Nat.le_trans this (by decide), fun p hp => by
    have eH2 : Ex H1 (upd H1 p (.lst vs)) := Ex.new hp
    have e2 : En F (p :: S1) B1 (upd H1 p (.lst vs)) σ Γ1 := e1.ofEO (xs := vs) eH2 (Ex.refl _) (e1.w.own hp)
    have nA : p ∉ A := fun m => by
      obtain ⟨s, xs, z⟩ := t.at_ p m
      rw [hp] at z
      cases z
    refine q (.ref p) (p :: S1) _ _ (.c .lst os) Γ1 (p :: A) ⟨os, rfl, r⟩ (eH.trans eH2) e2 eB (.c (s := .lst) upd_same trivial (t.mv (Ex.refl _) fun a m => upd_ne fun z => nA (z ▸ m)) nA) ⟨⟨fun a m => ?_, fun a m => ?_, fun a m j s hj => ?_⟩, fun a m => ?_, k.less, fun a m => List.mem_cons_of_mem _ (k.sub a m)⟩
    · rcases List.mem_cons.mp m with rfl | m
      · exact List.mem_cons_self
      · exact List.mem_cons_of_mem _ (k.own.1 a m)
    · rcases List.mem_cons.mp m with rfl | m
      · exact .inr (e1.freshH hp)
      · exact k.own.2.1 a m
    · rcases List.mem_cons.mp m with rfl | m
      · exact e1.notOwn hp hj
      · exact k.own.2.2 a m j s hj
    · rcases List.mem_cons.mp m with rfl | m
      · exact .inr (nfr eH hp)
      · exact k.src a m⟩
/-- a, b = e, a tuple with things of one's own in it -/
theorem s_asgT2 {n : Nat} (hij : i ≠ j) (h : XO F te Γ R) (kk : ∀ o Γ', R o Γ' → ∃ o1 o2, o = .t [o1, o2] ∧ ∀ A1 A2, P.nx ((Γ'.set i (some (nT F.K o1 A1))).set j (some (nT F.K o2 A2)))) : SX F (tAsg te (gTup F.K 2 (gCons (gName i) (gCons (gName j) gNil)))) Γ P := fun S B H σ D e p =>
  h S B H σ e _ fun v S1 B1 H1 o Γ1 A r e1 eB t hA => by
    obtain ⟨o1, o2, rfl, kk⟩ := kk o Γ1 r
    cases t with
    | @t a xs _ _ h1 h2 =>
    cases h2 with
    | @cons v1 _ vs _ A1 A2' t1 h2 d1 =>
    cases h2 with
    | @cons v2 _ _ _ A2 A3 t2 h3 d2 =>
    cases h3
    have e2 := e1.setG (i := i) (t := nT F.K o1 A1) ⟨reg_nX, ⟨t1, fun u z => by cases z⟩, fun b m => ⟨hA.1 b (List.mem_append_left _ m), hA.2.1 b (List.mem_append_left _ m)⟩⟩ fun b hb k s hk hs => hA.2.2 b (List.mem_append_left _ hb) k s hs
    have e3 := e2.setG (i := j) (t := nT F.K o2 A2) ⟨reg_nX, ⟨t2, fun u z => by cases z⟩, fun b m => ⟨hA.1 b (List.mem_append_right _ (List.mem_append_left _ m)), hA.2.1 b (List.mem_append_right _ (List.mem_append_left _ m))⟩⟩ fun b hb k s hk hs => by
      rcases get_set hs with ⟨rfl, rfl, _⟩ | ⟨hne, hs⟩
      · exact fun z => d1 b z (List.mem_append_left _ hb)
      · rw [List.getElem?_set_ne hne]
        exact hA.2.2 b (List.mem_append_right _ (List.mem_append_left _ hb)) k s hs
    exact ⟨_, _, rfl, st_of (e1.w.ex _ _ h1), rfl, v1, [v2], rfl, v2, [], rfl, rfl, p.nx _ _ _ _ _ (kk A1 A2) e3 eB⟩
end
end Pw

/-! ## PwTf -/
namespace Pw
open PySem L2 Evl
/-! ### what makes things of one's own out of what is frozen -/
def FT (K : PySem.W.Frag) (te : TE) (Γ : En0) (o : OD) : Prop := ∀ σ B, EnvF K B σ Γ → ∀ S H, Wd S B H → ∀ Q : VK, (∀ v B' H' S' A, Ex H H' → Ex B B' → Wd S' B' H' → (∀ a ∈ S, a ∈ S') → OTr K B' H' v o A → (∀ a ∈ A, a ∈ S' ∧ H a = none) → Q v H') → te σ H Q
def FA (K : PySem.W.Frag) (tA : TA) (Γ : En0) (os : List OD) : Prop := ∀ σ B, EnvF K B σ Γ → ∀ S H, Wd S B H → ∀ Q : List V → Hp → Prop, (∀ vs B' H' S' A, Ex H H' → Ex B B' → Wd S' B' H' → (∀ a ∈ S, a ∈ S') → OTrs K B' H' vs os A → (∀ a ∈ A, a ∈ S' ∧ H a = none) → Q vs H') → tA σ H Q
theorem put_newK {κ : Type} [DecidableEq κ] {kvs : List (κ × V)} {k : κ} {v : V} (h : k ∉ kvs.map (·.1)) : putK kvs k v = kvs ++ [(k, v)] := by
  unfold putK
  rw [if_neg]
  intro z
  obtain ⟨p, hp, e⟩ := List.any_eq_true.mp z
  have e := of_decide_eq_true e
  exact h (List.mem_map.mpr ⟨p, hp, e⟩)
theorem merge_newK : ∀ (kvs acc : List (Key × V)), ((acc ++ kvs).map (·.1)).Nodup → mergeK acc kvs = acc ++ kvs
  | [], acc, _ => by
    show acc = acc ++ []
    rw [List.append_nil]
  | p :: r, acc, h => by
    have e : putK acc p.1 p.2 = acc ++ [p] := put_newK fun z => by
      rw [List.map_append, List.map_cons, List.nodup_append] at h
      exact h.2.2 p.1 z p.1 List.mem_cons_self rfl
    show mergeK (putK acc p.1 p.2) r = _
    rw [e, merge_newK r (acc ++ [p]) (by rw [List.append_assoc]; exact h), List.append_assoc]
    rfl
section
variable {F : Fr} {K : PySem.W.Frag} {S S' : List Addr} {B B' H H' : Hp} {σ : L2.St} {Γ Γ1 Γ2 : En0} {i j k : Nat} {v u : V} {d d' : PyData} {o o1 o2 sub : OD} {ds es : List PyData} {os : List OD} {a : Addr} {As A : List Addr} {te ta tb ti tc td ty tv : TE} {tt : TT} {tA : TA} {wi : TI} {g : TG} {t : TS} {P : Po} {p : List Nat} {R R' R1 : OD → En0 → Prop} {s : Shape} {E : XK} {x : Option V}
theorem xf_ft (h : FT F.K te (hide Γ) o) : XF F te Γ fun o' Γ' => o' = o ∧ Γ' = Γ := fun S B H σ e Q q =>
  h σ B e.hidden S H e.w _ fun v B' H' S' A eH eB w hS t hA => by
    have e2 : En F S' B' H' σ Γ := by
      refine ⟨w, fun b m => hS b (e.sub b m), e.eB.trans eB, e.xH.trans (Xs.of eH), e.fb, e.hb0, e.len, fun j s h => ?_, e.ap⟩
      obtain ⟨v, g1, g2⟩ := e.ok j s h
      exact ⟨v, g1, g2.ext eH eB hS⟩
    exact q v S' B' H' o Γ A ⟨rfl, rfl⟩ eH e2 eB t ⟨e.freshK (fun b m => (hA b m).1) fun b m => (hA b m).2, fun b m => .inr (hA b m).2, less_refl, hS⟩
/-- reading what is one's own: no lists among the data -/
theorem xf_ftA (h : FT F.K te Γ o) (hl : o.lf = true) : XF F te Γ fun o' Γ' => o' = o ∧ Γ' = Γ := fun S B H σ e Q q => by
  obtain ⟨S1, B1, hsub, w1, eB, hS, hE⟩ := e.frz2
  refine h σ B1 hE S1 H w1 _ fun u B3 H3 S3 Ar eH eB3 w3 hSS t hAr => ?_
  have hfr : ∀ a ∈ Ar, H a = none := fun a m => (hAr a m).2
  have t1 : OTr F.K (mi H3 (Ar ++ S1)) H3 u o Ar := t.mv (ex_mi w3.ex fun b m => w3.no b ((List.mem_append.mp m).elim (fun m => (hAr b m).1) (hSS b))) fun _ _ => rfl
  have t2 : OTr F.K (mi H3 (Ar ++ S)) H3 u o Ar := t1.noL (fun b m n => by
    rcases List.mem_append.mp m with m | m
    · exact absurd (List.mem_append_left _ m) n
    · obtain ⟨s, xs, z⟩ := hS b m fun y => n (List.mem_append_right _ y)
      exact ⟨s, xs, eH _ _ z⟩) hl
  have w' : Wd (Ar ++ S) (mi H3 (Ar ++ S)) H3 := ⟨mi_ex, fun b m => mi_no m, fun b m => by
    rcases List.mem_append.mp m with m | m
    · obtain ⟨s, xs, z⟩ := t.at_ b m
      exact ⟨_, z⟩
    · obtain ⟨o, ho⟩ := e.w.at_ b m
      exact ⟨o, eH _ _ ho⟩⟩
  have eB' : Ex B (mi H3 (Ar ++ S)) := ex_mi (e.w.ex.trans eH) fun b m => by
    rcases List.mem_append.mp m with m | m
    · exact e.w.fresh (hfr b m)
    · exact e.w.no b m
  have e2 : En F (Ar ++ S) (mi H3 (Ar ++ S)) H3 σ Γ := by
    refine ⟨w', fun b m => List.mem_append_right _ (e.sub b m), e.eB.trans eB', e.xH.trans (Xs.of eH), e.fb, e.hb0, e.len, fun j s h => ?_, e.ap⟩
    obtain ⟨v, g1, g2⟩ := e.ok j s h
    exact ⟨v, g1, g2.ext eH eB' fun b m => List.mem_append_right _ m⟩
  exact q u (Ar ++ S) _ H3 o Γ Ar ⟨rfl, rfl⟩ eH e2 eB' t2 ⟨e.freshK (fun b m => List.mem_append_left _ m) hfr, fun b m => .inr (hfr b m), less_refl, fun b m => List.mem_append_right _ m⟩
theorem ft_d (h : EE K te Γ d) : FT K te Γ (.d d) := fun σ B e S H w Q q => (h σ B e).bind w fun v B' H' eH eB w' r => q v B' H' S [] eH eB w' (fun _ m => m) (.d r) fun a m => (List.not_mem_nil m).elim
theorem ft_eo (h : EO K te Γ ds) : FT K te Γ (.c .lst (ds.map .d)) := fun σ B e S H w Q q => h σ B S H e w _ fun a xs B' H' hn eH eB w' ha hx => q (.ref a) B' H' (a :: S) [a] eH eB w' (fun _ m => List.mem_cons_of_mem _ m) (otr_lst ha hx) fun b m => by
  rw [List.mem_singleton.mp m]
  exact ⟨List.mem_cons_self, hn⟩
theorem ft_dK : FT K tDNewK Γ (.c (.dK []) []) := fun σ B e S H w Q q p hp => q (.ref p) B _ (p :: S) [p] (Ex.new hp) (Ex.refl _) (w.own hp) (fun _ m => List.mem_cons_of_mem _ m) (.c (s := .dK []) (xs := []) upd_same rfl .nil fun m => by cases m) fun b m => by
  rw [List.mem_singleton.mp m]
  exact ⟨List.mem_cons_self, hp⟩
theorem ft_dT : FT K tDNewT Γ (.c (.dT []) []) := fun σ B e S H w Q q p hp => q (.ref p) B _ (p :: S) [p] (Ex.new hp) (Ex.refl _) (w.own hp) (fun _ m => List.mem_cons_of_mem _ m) (.c (s := .dT []) (xs := []) upd_same rfl .nil fun m => by cases m) fun b m => by
  rw [List.mem_singleton.mp m]
  exact ⟨List.mem_cons_self, hp⟩
theorem ft_call {f : List OD → (OD → Prop) → Prop} (ha : ET K tA Γ os) (hf : f os fun r => r = o) : FT K (tCall (spT K f) [] E tA) Γ o := fun σ B e S H w Q q =>
  (ha σ B e).bind w fun vs B1 H1 eH1 eB1 w1 rs => ⟨S, B1, os, _, w1, by rw [List.append_nil]; exact rs, hf, fun r u B2 H2 S2 Ar hr eH2 eB2 w2 hSS t hAr => by
    subst hr
    exact q u B2 H2 S2 Ar (eH1.trans eH2) (eB1.trans eB2) w2 hSS t fun a m => ⟨(hAr a m).1, nfr eH1 (hAr a m).2⟩⟩
theorem fa_nil : FA K tNil Γ [] := fun σ B e S H w Q q => q [] B H S [] (Ex.refl _) (Ex.refl _) w (fun _ m => m) .nil fun a m => (List.not_mem_nil m).elim
theorem fa_cons (h : FT K ta Γ o) (hr : FA K tA Γ os) : FA K (tCons ta tA) Γ (o :: os) := fun σ B e S H w Q q =>
  h σ B e S H w _ fun v B1 H1 S1 A1 eH1 eB1 w1 hS1 t1 hA1 => hr σ B1 (e.mono eB1) S1 H1 w1 _ fun vs B2 H2 S2 A2 eH2 eB2 w2 hS2 t2 hA2 => by
    refine q (v :: vs) B2 H2 S2 (A1 ++ A2) (eH1.trans eH2) (eB1.trans eB2) w2 (fun a m => hS2 a (hS1 a m)) (.cons (t1.ex eB2 eH2) t2 fun a m z => ?_) fun a m => ?_
    · obtain ⟨s, xs, y⟩ := t1.at_ a m
      rw [(hA2 a z).2] at y
      cases y
    · rcases List.mem_append.mp m with m | m
      · exact ⟨hS2 a (hA1 a m).1, (hA1 a m).2⟩
      · exact ⟨(hA2 a m).1, nfr eH1 (hA2 a m).2⟩
theorem ft_tup (h : FA K tA Γ os) (hl : os.length ≤ 1000) : FT K (tTup tA) Γ (.t os) := fun σ B e S H w Q q =>
  h σ B e S H w _ fun vs B1 H1 S1 A eH eB w1 hS t hA => ⟨by rw [t.len]; exact Nat.le_trans hl (by decide), fun p hp => by
    have eH2 : Ex H1 (upd H1 p (.tup vs)) := Ex.new hp
    exact q (.ref p) _ _ S1 A (eH.trans eH2) (eB.trans (w1.newE (o := .tup vs) hp)) (w1.new hp) hS (.t upd_same (t.mv (w1.newE hp) fun a m => by
      obtain ⟨s, xs, z⟩ := t.at_ a m
      rw [z, eH2 _ _ z])) hA⟩
theorem ft_lst (h : FA K tA Γ os) (hl : os.length ≤ 1000) : FT K (tLst tA) Γ (.c .lst os) := fun σ B e S H w Q q =>
  h σ B e S H w _ fun vs B1 H1 S1 A eH eB w1 hS t hA => ⟨by rw [t.len]; exact Nat.le_trans hl (by decide), fun p hp => by
    have nA : p ∉ A := fun m => by
      obtain ⟨s, xs, z⟩ := t.at_ p m
      rw [hp] at z
      cases z
    refine q (.ref p) B1 _ (p :: S1) (p :: A) (eH.trans (Ex.new (o := .lst vs) hp)) eB (w1.own hp) (fun a m => List.mem_cons_of_mem _ (hS a m)) (.c (s := .lst) upd_same trivial (t.mv (Ex.refl _) fun a m => upd_ne fun z => nA (z ▸ m)) nA) fun a m => ?_
    rcases List.mem_cons.mp m with rfl | m
    · exact ⟨List.mem_cons_self, nfr eH hp⟩
    · exact ⟨List.mem_cons_of_mem _ (hA a m).1, (hA a m).2⟩⟩
theorem ft_nil : FT K (tLst tNil) Γ (.c .lst []) := ft_lst fa_nil (by decide)
/-- [e for x in l], things of one's own -/
theorem ft_lc {α : Type} (l : List α) (enc : α → PyData) (oe : α → OD) {vs : List Nat} {Γ2 : α → En0} (hk : EW K wi Γ (l.map enc)) (hl : l.length ≤ 40000) (hg : ∀ a ∈ l, GN K g vs (wipeE Γ vs) (enc a) (Γ2 a)) (he : ∀ a ∈ l, FT K te (Γ2 a) (oe a)) : FT K (tLc wi g tYes te vs) Γ (.c .lst (l.map oe)) := fun σ B e S H w Q q => by
  refine hk σ B e S H w _ fun J B1 H1 e1 eB1 w1 hgo hstop hyld Dl hD => ?_
  rw [List.length_map] at hgo hstop hyld
  refine ⟨fun i m H' => m = l.length - i ∧ i ≤ l.length ∧ Ex H1 H' ∧ ∃ S2 B' acc A, Ex B1 B' ∧ Wd S2 B' H' ∧ (∀ a ∈ Dl :: S, a ∈ S2) ∧ H' Dl = some (.lst acc) ∧ OTrs K B' H' acc ((l.take i).map oe) A ∧ Dl ∉ A ∧ ∀ a ∈ A, a ∈ S2 ∧ H1 a = none,
    ⟨l.length, by omega, Nat.zero_le _, Ex.new hD, Dl :: S, B1, [], [], Ex.refl _, w1.own hD, fun _ m => m, upd_same, .nil, List.not_mem_nil, fun a m => (List.not_mem_nil m).elim⟩, ?_⟩
  rintro i m H2 ⟨rfl, hi, eH, S2, B2, acc, A, eB2, w2, hS2, hA, ht, hnA, hAf⟩
  by_cases hlt : i < l.length
  · obtain ⟨a, ha⟩ : ∃ a, l[i]? = some a := ⟨l[i], List.getElem?_eq_getElem hlt⟩
    have hmem : a ∈ l := List.mem_of_getElem? ha
    refine .inr ⟨hgo i H2 (eB2.trans w2.ex) hlt, fun H' => Ex H1 H' ∧ ∃ S2 B' acc A, Ex B1 B' ∧ Wd S2 B' H' ∧ (∀ a ∈ Dl :: S, a ∈ S2) ∧ H' Dl = some (.lst acc) ∧ OTrs K B' H' acc ((l.take (i + 1)).map oe) A ∧ Dl ∉ A ∧ ∀ a ∈ A, a ∈ S2 ∧ H1 a = none, fun H' ⟨h1, h2⟩ => ⟨l.length - (i + 1), by omega, rfl, by omega, h1, h2⟩, fun x H3 hy => ?_⟩
    obtain ⟨B3, e3, eB3, w3, d, hd1, hd2⟩ := hyld i S2 B2 H2 x H3 eB2 w2 hlt hy
    have ed : enc a = d := by
      rw [List.getElem?_map, ha] at hd1
      exact Option.some.inj hd1
    subst ed
    have htk : l.take (i + 1) = l.take i ++ [a] := by rw [List.take_add_one, ha]; rfl
    have hA3 := e3 _ _ hA
    refine hg a hmem S2 B3 H3 _ x w3 ((e.mono (eB1.trans (eB2.trans eB3))).wiped vs) hd2 _ fun σ' e' kk ll => ⟨wipe_back (ll.trans (wipe_length ..)) fun i m => by rw [kk i m, wipeS_get, if_neg m], ?_⟩
    show te σ' H3 _
    refine he a hmem σ' B3 e' S2 H3 w3 _ fun v B4 H4 S4 A4 eH4 eB4 w4 hS4 t4 hA4 => ?_
    have hlen : acc.length ≤ l.length := by
      rw [ht.len, List.length_map, List.length_take]
      exact Nat.min_le_right _ _
    have hA4' := eH4 _ _ hA3
    have nD4 : Dl ∉ A4 := fun m => by
      have := (hA4 _ m).2
      rw [hA3] at this
      cases this
    have nAA : ∀ b ∈ A4, b ∉ A := fun b m z => by
      obtain ⟨s, xs, y⟩ := ht.at_ b z
      have := (hA4 b m).2
      rw [e3 _ _ y] at this
      cases this
    have mDl : Dl ∈ S4 := hS4 _ (hS2 _ List.mem_cons_self)
    have hup : ∀ {A : List Addr}, Dl ∉ A → ∀ b ∈ A, upd H4 Dl (.lst (acc ++ [v])) b = H4 b := fun hn b m => upd_ne fun z => hn (z ▸ m)
    have ht4 : OTrs K B4 H4 acc ((l.take i).map oe) A := ht.mv (eB3.trans eB4) fun b m => by
      obtain ⟨s, xs, y⟩ := ht.at_ b m
      rw [y, eH4 _ _ (e3 _ _ y)]
    refine ⟨acc, hA4', sz_lt (by omega), ?_, S4, B4, acc ++ [v], A ++ A4, eB2.trans (eB3.trans eB4), w4.put mDl, fun b m => hS4 b (hS2 b m), upd_same, ?_, fun m => (List.mem_append.mp m).elim hnA nD4, fun b m => ?_⟩
    · exact (eH.trans (e3.trans eH4)).mut hD
    · rw [htk, List.map_append]
      exact (ht4.mv (Ex.refl _) (hup hnA)).snoc (t4.mv (Ex.refl _) (hup nD4)) nAA
    · rcases List.mem_append.mp m with m | m
      · exact ⟨hS4 b (hAf b m).1, (hAf b m).2⟩
      · exact ⟨(hA4 b m).1, nfr (eH.trans e3) (hA4 b m).2⟩
  · have ei : i = l.length := by omega
    subst ei
    rw [List.take_length] at ht
    refine .inl ⟨hstop _ H2 (eB2.trans w2.ex) rfl, q (.ref Dl) B2 H2 S2 (Dl :: A) (e1.trans eH) (eB1.trans eB2) w2 (fun a m => hS2 a (List.mem_cons_of_mem _ m)) (.c (s := .lst) hA trivial ht hnA) fun a m => ?_⟩
    rcases List.mem_cons.mp m with rfl | m
    · exact ⟨hS2 _ List.mem_cons_self, nfr e1 hD⟩
    · exact ⟨(hAf a m).1, nfr e1 (hAf a m).2⟩
/-- dict([(k, e), ..]) of ints -/
theorem otrs_pairs : ∀ {ks : List Int} {os : List OD} {xs : List V} {A : List Addr}, OTrs K B H xs ((ks.zip os).map fun q => .t [.d (.int q.1), q.2]) A → ks.length = os.length → Ex B H → ∃ (ps : List Addr) (vs : List V), xs = ps.map V.ref ∧ Paired (fun p (kv : Key × V) => SqT K H p [kV kv.1, kv.2]) ps ((kI ks).zip vs) ∧ OTrs K B H vs os A ∧ vs.length = ks.length
  | [], [], _, _, h, _, _ => by
    cases h
    exact ⟨[], [], rfl, .nil, .nil, rfl⟩
  | [], _ :: _, _, _, _, h, _ => by simp at h
  | _ :: _, [], _, _, _, h, _ => by simp at h
  | k :: ks, o :: os, _, _, h, hl, eBH => by
    cases h with
    | @cons v _ vs _ A1 A2 h1 h2 h3 =>
    cases h1 with
    | @t p ys _ _ g1 g2 =>
    cases g2 with
    | @cons y1 _ ys _ B1 B2 k1 k2 k3 =>
    cases k1 with
    | d k1 =>
    cases k1
    cases k2 with
    | @cons y2 _ ys _ C1 C2 l1 l2 l3 =>
    cases l2
    obtain ⟨ps, us, rfl, h5, h6, h7⟩ := otrs_pairs h2 (by simpa using hl) eBH
    refine ⟨p :: ps, y2 :: us, rfl, .cons (st_of (eBH _ _ g1)) h5, ?_, by rw [List.length_cons, List.length_cons, h7]⟩
    rw [List.append_nil, List.nil_append] at *
    exact .cons l1 h6 h3
theorem ft_dictP {ks : List Int} (h : FT K te Γ (.c .lst ((ks.zip os).map fun q => .t [.d (.int q.1), q.2]))) (hl : ks.length = os.length) (hn : ks.Nodup) : FT K (tCB (rDictP K) (tCons te tNil)) Γ (.c (.dK (kI ks)) os) := fun σ B e S H w Q q =>
  h σ B e S H w _ fun v B1 H1 S1 A eH eB w1 hS t hA => by
    cases t with
    | @c a _ xs _ A1 h1 h2 h3 h4 =>
    obtain ⟨ps, vs, rfl, h5, h6, h7⟩ := otrs_pairs h3 hl w1.ex
    refine ⟨a, ps, (kI ks).zip vs, rfl, sq_of h1, h5, fun p hp => ?_⟩
    have hkl : (kI ks).length = vs.length := by rw [List.length_map]; exact h7.symm
    have em : mergeK [] ((kI ks).zip vs) = (kI ks).zip vs := by
      have := merge_newK ((kI ks).zip vs) [] (by
        rw [List.nil_append, zipT_fst hkl]
        exact kI_nd hn)
      rw [this, List.nil_append]
    rw [em]
    have nA : p ∉ A1 := fun m => by
      obtain ⟨s, xs, z⟩ := h3.at_ p m
      rw [hp] at z
      cases z
    refine q (.ref p) B1 _ (p :: S1) (p :: A1) (eH.trans (Ex.new (o := .dK ((kI ks).zip vs)) hp)) eB (w1.own hp) (fun a m => List.mem_cons_of_mem _ (hS a m)) (.c (s := .dK (kI ks)) (xs := vs) upd_same hkl (h6.mv (Ex.refl _) fun a m => upd_ne fun z => nA (z ▸ m)) nA) fun b m => ?_
    rcases List.mem_cons.mp m with rfl | m
    · exact ⟨List.mem_cons_self, nfr eH hp⟩
    · exact ⟨List.mem_cons_of_mem _ (hA b (List.mem_cons_of_mem _ m)).1, (hA b (List.mem_cons_of_mem _ m)).2⟩
/-- an own tree frozen from here on -/
theorem En.giveT {t : Sl} (e : En F S B H σ Γ) (hi : Γ[i]? = some (some (nX F.K x o As))) (hb : ∀ a ∈ As, a ∉ F.bs) (ht : ∀ v B', TRq F.K o v B' → SlF F.K B' v t) (hk : ∀ {S B H v}, SlF F.K B v t → SlO F S B H v t) (hO : ∀ z a, ¬ ownA z (some t) a) : ∃ S' B', En F S' B' H σ (Γ.set i (some t)) ∧ Ex B B' := by
  classical
  obtain ⟨v, h1, g2, ⟨g3, _⟩, g4⟩ := e.ok i _ hi
  have hFH : ∀ a ∈ As, F.H a = none := fun a m => (g4 a m).2.resolve_left (hb a m)
  have n0 : ∀ a ∈ As, a ∉ F.S := fun a m z => e.hb0 a z (hFH a m)
  let B' : Hp := fun a => if a ∈ As then H a else B a
  have eB' : Ex B B' := fun a o g => by
    by_cases z : a ∈ As
    · rw [e.w.no a (g4 a z).1] at g
      cases g
    · show (if a ∈ As then H a else B a) = _
      rw [if_neg z]
      exact g
  refine ⟨S.filter (fun a => !decide (a ∈ As)), B', ⟨⟨fun a o g => ?_, fun a m => ?_, fun a m => e.w.at_ a (List.mem_filter.mp m).1⟩, fun a m => List.mem_filter.mpr ⟨e.sub a m, ?_⟩, e.eB.trans eB', e.xH, e.fb, e.hb0, by rw [List.length_set]; exact e.len, fun j s hj => ?_, apt_less e.ap fun a s _ h => (hO _ _ h).elim⟩, eB'⟩
  · have g : (if a ∈ As then H a else B a) = some o := g
    by_cases z : a ∈ As
    · rw [if_pos z] at g
      exact g
    · rw [if_neg z] at g
      exact e.w.ex a o g
  · obtain ⟨m1, m2⟩ := List.mem_filter.mp m
    have z : a ∉ As := by simpa using m2
    show (if a ∈ As then H a else B a) = none
    rw [if_neg z]
    exact e.w.no a m1
  · have z : a ∉ As := fun z => n0 a z m
    simp [z]
  · have here : OTr F.K B' B' v o As := g3.mv eB' fun a m => by
      show (if a ∈ As then H a else B a) = H a
      rw [if_pos m]
    rcases get_set hj with ⟨rfl, hs, _⟩ | ⟨hne, hj⟩
    · cases hs
      exact ⟨v, h1, hk (ht v B' ⟨As, here⟩)⟩
    · obtain ⟨u, k1, k2⟩ := e.ok j s hj
      refine ⟨u, k1, ?_⟩
      have out : ∀ a, ownA σ[j]? (some s) a → a ∉ As := fun a h z => e.ap i j a _ _ hne hi hj z h
      match s, k2, hj, out with
      | .d x, k2, _, _ => exact Dq.mono eB' k2
      | .q R, ⟨k2, k3⟩, _, _ => exact ⟨k2, k2 _ _ _ eB' k3⟩
      | .o s ds, ⟨b, ys, l1, l2, l3, l4, l5⟩, _, out =>
        have nb : b ∉ As := out b (by rw [k1, l1]; rfl)
        exact ⟨b, ys, l1, List.mem_filter.mpr ⟨l2, by simp [nb]⟩, l3, l4, DqAll.mono eB' l5⟩
      | .b b c, ⟨l1, l2, l3, l4⟩, _, out =>
        have nb : b ∉ As := out b (by rw [k1, l1]; rfl)
        exact ⟨l1, l2, List.mem_filter.mpr ⟨l3, by simp [nb]⟩, l4⟩
      | .n As' N, ⟨l1, l2, l3⟩, _, out =>
        exact ⟨l1, l1.mv _ _ _ _ _ eB' (fun b m => rfl) l2, fun b m => ⟨List.mem_filter.mpr ⟨(l3 b m).1, by simp [out b m]⟩, (l3 b m).2⟩⟩
theorem s_giveT (hi : Γ[i]? = some (some (nX F.K x o As))) (hb : F.bs = []) (hd : o.asD = some d) (h : SX F t (Γ.set i (some (.d d))) P) : SX F t Γ P := fun S B H σ D e p => by
  obtain ⟨S', B', e', eB⟩ := e.giveT (t := .d d) hi (fun a m => by rw [hb]; exact List.not_mem_nil) (fun v B' ⟨_, r⟩ => r.data hd) (fun h => h) (fun z a h => h)
  exact h S' B' H σ D e' (p.mono eB)
/-- the box's own place is no one else's -/
theorem En.notBox {b : Addr} {c : Nat} (e : En F S B H σ Γ) (hi : Γ[i]? = some (some (nX F.K x o As))) (hb : F.bs = [b]) (hj : Γ[j]? = some (some (.b b c))) : ∀ a ∈ As, a ∉ F.bs := fun a m z => by
  rw [hb] at z
  have := List.mem_singleton.mp z
  subst this
  have hne : i ≠ j := fun y => by
    rw [y, hj] at hi
    cases hi
  obtain ⟨u, k1, l1, _⟩ := e.ok j _ hj
  exact e.ap i j a _ _ hne hi hj m (by rw [k1, l1]; rfl)
theorem s_giveTb {b : Addr} {c : Nat} (hi : Γ[i]? = some (some (nX F.K x o As))) (hb : F.bs = [b]) (hj : Γ[j]? = some (some (.b b c))) (hd : o.asD = some d) (h : SX F t (Γ.set i (some (.d d))) P) : SX F t Γ P := fun S B H σ D e p => by
  obtain ⟨S', B', e', eB⟩ := e.giveT (t := .d d) hi (e.notBox hi hb hj) (fun v B' ⟨_, r⟩ => r.data hd) (fun h => h) (fun z a h => h)
  exact h S' B' H σ D e' (p.mono eB)
theorem s_giveQb {b : Addr} {c : Nat} (hi : Γ[i]? = some (some (nX F.K x o As))) (hb : F.bs = [b]) (hj : Γ[j]? = some (some (.b b c))) (h : SX F t (Γ.set i (some (.q (TRq F.K o)))) P) : SX F t Γ P := fun S B H σ D e p => by
  obtain ⟨S', B', e', eB⟩ := e.giveT (t := .q (TRq F.K o)) hi (e.notBox hi hb hj) (fun v B' r => ⟨stays_TRq, r⟩) (fun h => h) (fun z a h => h)
  exact h S' B' H σ D e' (p.mono eB)
theorem s_giveQ (hi : Γ[i]? = some (some (nX F.K x o As))) (hb : F.bs = []) (h : SX F t (Γ.set i (some (.q (TRq F.K o)))) P) : SX F t Γ P := fun S B H σ D e p => by
  obtain ⟨S', B', e', eB⟩ := e.giveT (t := .q (TRq F.K o)) hi (fun a m => by rw [hb]; exact List.not_mem_nil) (fun v B' r => ⟨stays_TRq, r⟩) (fun h => h) (fun z a h => h)
  exact h S' B' H σ D e' (p.mono eB)
/-- {k: e} -/
theorem ft_disp1 {k : Int} (hk : EE K ta Γ (.int k)) (h : FT K tv Γ o) : FT K (tDisp [(ta, tv)]) Γ (.c (.dK (kI [k])) [o]) := fun σ B e S H w Q q p hp => by
  have w1 : Wd (p :: S) B (upd H p (.dK [])) := w.own hp
  refine (hk σ B e).bind w1 fun v1 B2 H2 eH2 eB2 w2 r2 => ?_
  cases r2
  refine h σ B2 (e.mono eB2) (p :: S) H2 w2 _ fun u B3 H3 S3 A3 eH3 eB3 w3 hS3 t3 hA3 => ?_
  have hp2 : H2 p = some (.dK []) := eH2 _ _ upd_same
  have nA : p ∉ A3 := fun m => by
    have := (hA3 p m).2
    rw [hp2] at this
    cases this
  refine ⟨eH3 _ _ hp2, [(.inl k, u)], rfl, Nat.le_of_ble_eq_true rfl, q (.ref p) B3 _ S3 (p :: A3) (fun a o g => ?_) (eB2.trans eB3) (w3.put (hS3 p List.mem_cons_self)) (fun a m => hS3 a (List.mem_cons_of_mem _ m)) (.c (s := .dK (kI [k])) (xs := [u]) upd_same rfl ?_ nA) fun a m => ?_⟩
  · have hne : a ≠ p := fun z => by rw [z, hp] at g; cases g
    rw [upd_ne hne]
    exact eH3 _ _ (eH2 _ _ (by rw [upd_ne hne]; exact g))
  · have := OTrs.cons (t3.mv (H' := upd H3 p (ho (.dK (kI [k])) [u])) (Ex.refl _) fun a m => upd_ne fun z => nA (z ▸ m)) .nil fun a _ => List.not_mem_nil
    rw [List.append_nil] at this
    exact this
  · rcases List.mem_cons.mp m with rfl | m
    · exact ⟨hS3 _ List.mem_cons_self, hp⟩
    · refine ⟨(hA3 a m).1, nfr (H' := H2) (fun b o g => ?_) (hA3 a m).2⟩
      have hne : b ≠ p := fun z => by rw [z, hp] at g; cases g
      exact eH2 _ _ (by rw [upd_ne hne]; exact g)
/-- for x in reversed(e) -/
theorem wk_rev (h : EvAD K tA σ B [.list ds]) : WkD K (iRev K tA) σ B ds.reverse := fun S H w R k => h.bind w fun vs B1 H1 e1 eB1 w1 r => by
  cases r with
  | @cons v vs _ _ r1 r2 =>
  cases r2
  cases r1 with
  | @lst a xs _ hs hd =>
    have hl := DqAll.length hd
    refine ⟨a, xs, rfl, ex_l w1.ex hs, k _ B1 H1 e1 eB1 w1 (fun i H' e hi => ?_) (fun i H' e hi => ?_) fun i S' B' H' x H'' eB w' hi y => ?_⟩
    · rw [List.length_reverse] at hi
      exact ⟨by omega, xs, xs[xs.length - 1 - i]'(by omega), ex_l e hs, List.getElem?_eq_getElem _⟩
    · rw [List.length_reverse] at hi
      show xs.length ≤ i
      omega
    · rw [List.length_reverse] at hi
      obtain ⟨rfl, f⟩ := y
      have hx := f _ (ex_l (eB.trans w'.ex) hs)
      obtain ⟨d, h1, h2⟩ := DqAll.get hd hx
      refine ⟨B', Ex.refl _, Ex.refl _, w', d, ?_, Dq.mono eB h2⟩
      rw [List.getElem?_reverse hi, ← hl]
      exact h1
theorem nw_rev (h : EA K tA Γ [.list ds]) : EW K (iRev K tA) Γ ds.reverse := fun σ B e => wk_rev (h σ B e)
end
section
variable {F : Fr} {K : PySem.W.Frag} {S : List Addr} {B H : Hp} {σ : L2.St} {Γ Γ2 : En0} {d : PyData} {te ti tc : TE} {wi : TI} {g : TG} {tb : TS} {P : Po} {D : Ends} {i j : Nat} {p : List Nat} {o : OD} {os : List OD} {As : List Addr}
theorem for_atT {α : Type} (l : List α) (enc : α → PyData) (e : En F S B H σ Γ) (p : Post F B P D) (hk : WkD F.K wi σ B (l.map enc)) (Iv : Nat → En0 → Prop) (h0 : Iv 0 Γ)
    (turn : ∀ i a Γ', l[i]? = some a → Iv i Γ' → ∃ Γ2, GT F g Γ' (enc a) Γ2 ∧ SX F tb Γ2 { P with nx := Iv (i + 1), ct := Iv (i + 1), bk := P.nx }) (done : ∀ Γ', Iv l.length Γ' → P.nx Γ') : tFor wi g tb D σ H := by
  refine hk S H e.w _ fun J B1 H1 e1 eB1 w1 hgo hstop hyld => ?_
  rw [List.length_map] at hgo hstop hyld
  refine ⟨fun i m σ' H' => m = l.length - i ∧ i ≤ l.length ∧ ∃ S' B' Γ', Iv i Γ' ∧ En F S' B' H' σ' Γ' ∧ Ex B1 B', ⟨l.length, by omega, Nat.zero_le _, S, B1, Γ, h0, e.ext e1 eB1 w1, Ex.refl _⟩, ?_⟩
  rintro i m σ2 H2 ⟨rfl, hi, S', B', Γ', hv, e2, eB2⟩
  by_cases hlt : i < l.length
  · obtain ⟨a, ha⟩ : ∃ a, l[i]? = some a := ⟨l[i], List.getElem?_eq_getElem hlt⟩
    refine .inr ⟨hgo i H2 (eB2.trans e2.w.ex) hlt, fun σ' H' => ∃ S' B' Γ', Iv (i + 1) Γ' ∧ En F S' B' H' σ' Γ' ∧ Ex B1 B', fun σ' H' h => ⟨l.length - (i + 1), by omega, rfl, by omega, h⟩, fun x H3 hy => ?_⟩
    obtain ⟨B3, e3, eB3, w3, d, hd1, hd2⟩ := hyld i S' B' H2 x H3 eB2 e2.w hlt hy
    have ed : enc a = d := by
      rw [List.getElem?_map, ha] at hd1
      exact Option.some.inj hd1
    subst ed
    obtain ⟨Γ2, gt, body⟩ := turn i a Γ' ha hv
    refine gt S' B3 H3 σ2 x (e2.ext e3 eB3 w3) hd2 _ fun σ' e4 => ?_
    refine body S' B3 H3 σ' _ e4 ⟨fun S5 B5 H5 σ5 Γ5 q e5 x5 => ⟨S5, B5, Γ5, q, e5, eB2.trans (eB3.trans x5)⟩, fun S5 B5 H5 σ5 Γ5 v d q e5 x5 hv5 => p.rt S5 B5 H5 σ5 Γ5 v d q e5 (eB1.trans (eB2.trans (eB3.trans x5))) hv5, fun S5 B5 H5 σ5 Γ5 q e5 x5 => p.nx S5 B5 H5 σ5 Γ5 q e5 (eB1.trans (eB2.trans (eB3.trans x5))), fun S5 B5 H5 σ5 Γ5 q e5 x5 => ⟨S5, B5, Γ5, q, e5, eB2.trans (eB3.trans x5)⟩, fun S5 B5 H5 σ5 Γ5 a xs ds q e5 x5 => p.ro S5 B5 H5 σ5 Γ5 a xs ds q e5 (eB1.trans (eB2.trans (eB3.trans x5)))⟩
  · have ei : i = l.length := by omega
    subst ei
    exact .inl ⟨hstop _ H2 (eB2.trans e2.w.ex) rfl, p.nx S' B' H2 σ2 Γ' (done Γ' hv) e2 (eB1.trans eB2)⟩
/-- for x in G(e): e tells one of several things -/
theorem s_forX {R : PyData → En0 → Prop} {α : Type} {G : TE → TI} (hG : ∀ σ H R, te σ H (fun v H1 => G (tC v) σ H1 R) → G te σ H R) (h : EX F te Γ R)
    (kk : ∀ d Γ', R d Γ' → ∃ (l : List α) (enc : α → PyData) (Iv : Nat → En0 → Prop), (∀ σ B v, Dq F.K B v d → WkD F.K (G (tC v)) σ B (l.map enc)) ∧ Iv 0 Γ' ∧
      (∀ i a Γ', l[i]? = some a → Iv i Γ' → ∃ Γ2, GT F g Γ' (enc a) Γ2 ∧ SX F tb Γ2 { P with nx := Iv (i + 1), ct := Iv (i + 1), bk := P.nx }) ∧ (∀ Γ', Iv l.length Γ' → P.nx Γ')) : SX F (tFor (G te) g tb) Γ P := fun S B H σ D e p => by
  have key : te σ H fun v H1 => tFor (G (tC v)) g tb D σ H1 := h S B H σ e _ fun v S' B' H' d Γ' r e' eB hv => by
    obtain ⟨l, enc, Iv, hk, h0, turn, done⟩ := kk d Γ' r
    exact for_atT l enc e' (p.mono eB) (hk σ B' v hv) Iv h0 turn done
  exact hG σ H _ key
/-- a, b = e, a value without lists that reads what is one's own -/
theorem s_asgTE (h : ED F te Γ d) (hg : GT F g Γ d Γ2) (k : P.nx Γ2) : SX F (tAsg te g) Γ P := fun S B H σ D e p =>
  h S B H σ e _ fun v B' H' eH eB e' r => hg S B' H' σ v e' r _ fun σ' e2 => p.nx S B' H' σ' _ k e2 eB
/-- what is told may be given at once -/
theorem x_giveG {R : OD → En0 → Prop} {R0 : PyData → En0 → Prop} (h : XF F te Γ R) (hb : F.bs = [] ∨ ∃ (b : Addr) (j : Nat), F.bs = [b] ∧ ∀ o Γ', R o Γ' → ∃ c : Nat, Γ'[j]? = some (some (.b b c))) (k : ∀ o Γ', R o Γ' → ∃ d, o.asD = some d ∧ R0 d Γ') : EX F te Γ R0 := fun S B H σ e Q q => h S B H σ e _ fun v S' B' H' o Γ' A r eH e' eB t hA => by
  obtain ⟨d, hd, hr⟩ := k o Γ' r
  classical
  have hFH : ∀ a ∈ A, F.H a = none := fun a m => (hA.own.2.1 a m).resolve_left fun z => by
    rcases hb with hb | ⟨b, j, hb, hj⟩
    · rw [hb] at z
      cases z
    · rw [hb] at z
      have := List.mem_singleton.mp z
      subst this
      obtain ⟨c, hj⟩ := hj o Γ' r
      obtain ⟨u, k1, l1, _⟩ := e'.ok j _ hj
      exact hA.own.2.2 a m j _ hj (by rw [k1, l1]; rfl)
  let B2 : Hp := fun a => if a ∈ A then H' a else B' a
  have eB2 : Ex B' B2 := fun a o g => by
    by_cases z : a ∈ A
    · rw [e'.w.no a (hA.own.1 a z)] at g
      cases g
    · show (if a ∈ A then H' a else B' a) = _
      rw [if_neg z]
      exact g
  have here : OTr F.K B2 B2 v o A := t.mv eB2 fun a m => by
    show (if a ∈ A then H' a else B' a) = H' a
    rw [if_pos m]
  have e2 : En F (S'.filter fun a => !decide (a ∈ A)) B2 H' σ Γ' := by
    refine ⟨⟨fun a o g => ?_, fun a m => ?_, fun a m => e'.w.at_ a (List.mem_filter.mp m).1⟩, fun a m => List.mem_filter.mpr ⟨e'.sub a m, ?_⟩, e'.eB.trans eB2, e'.xH, e'.fb, e'.hb0, e'.len, fun j s hj => ?_, e'.ap⟩
    · have g : (if a ∈ A then H' a else B' a) = some o := g
      by_cases z : a ∈ A
      · rw [if_pos z] at g
        exact g
      · rw [if_neg z] at g
        exact e'.w.ex a o g
    · obtain ⟨m1, m2⟩ := List.mem_filter.mp m
      have z : a ∉ A := by simpa using m2
      show (if a ∈ A then H' a else B' a) = none
      rw [if_neg z]
      exact e'.w.no a m1
    · have z : a ∉ A := fun z => e'.hb0 a m (hFH a z)
      simp [z]
    · obtain ⟨u, k1, k2⟩ := e'.ok j s hj
      refine ⟨u, k1, ?_⟩
      have out : ∀ a, ownA σ[j]? (some s) a → a ∉ A := fun a h z => hA.own.2.2 a z j _ hj h
      match s, k2, out with
      | .d x, k2, _ => exact Dq.mono eB2 k2
      | .q R, ⟨k2, k3⟩, _ => exact ⟨k2, k2 _ _ _ eB2 k3⟩
      | .o s ds, ⟨b, ys, l1, l2, l3, l4, l5⟩, out =>
        have nb : b ∉ A := out b (by rw [k1, l1]; rfl)
        exact ⟨b, ys, l1, List.mem_filter.mpr ⟨l2, by simp [nb]⟩, l3, l4, DqAll.mono eB2 l5⟩
      | .b b c, ⟨l1, l2, l3, l4⟩, out =>
        have nb : b ∉ A := out b (by rw [k1, l1]; rfl)
        exact ⟨l1, l2, List.mem_filter.mpr ⟨l3, by simp [nb]⟩, l4⟩
      | .n As' N, ⟨l1, l2, l3⟩, out =>
        exact ⟨l1, l1.mv _ _ _ _ _ eB2 (fun b m => rfl) l2, fun b m => ⟨List.mem_filter.mpr ⟨(l3 b m).1, by simp [out b m]⟩, (l3 b m).2⟩⟩
  exact q v _ B2 H' d Γ' hr e2 (eB.trans eB2) (here.data hd)
theorem x_give {R : OD → En0 → Prop} {R0 : PyData → En0 → Prop} (h : XF F te Γ R) (hb : F.bs = []) (k : ∀ o Γ', R o Γ' → ∃ d, o.asD = some d ∧ R0 d Γ') : EX F te Γ R0 := x_giveG h (.inl hb) k
/-- x[k] of a tuple with own things -/
theorem ep_ixU {k : Int} (h : EP K te Γ i p) (hi : IsT K Γ i o) (hg : o.get p = some (.t os)) (hk : EE K ti Γ (.int k)) (hj : ixN os.length k = some j) : EP K (tOp (rIxT K) te ti) Γ i (p ++ [j]) := fun σ B e v0 h0 =>
  evR_of (fun S H w Q q => (h σ B e v0 h0).bind w fun v B1 H1 e1 eB1 w1 r1 => ((hk σ B e).mono eB1).bind w1 fun y B2 H2 e2 eB2 w2 ry => by
    cases ry
    have r2 := r1.mono eB2
    obtain ⟨A1, t⟩ := e.tree hi h0 (eB1.trans eB2) r2 hg
    cases t with
    | @t a xs _ _ h1 h3 =>
    have hl := h3.len
    obtain ⟨_, hjl, _⟩ := ixN_seq hj
    obtain ⟨x, hx⟩ : ∃ x, xs[j]? = some x := ⟨xs[j], List.getElem?_eq_getElem (by omega)⟩
    refine ⟨a, xs, k, x, rfl, rfl, st_of (w2.ex _ _ h1), ?_, q x B2 H2 (e1.trans e2) (eB1.trans eB2) w2 (r2.snoc h1 hx)⟩
    unfold atI
    rw [hl, hj]
    exact hx) stays_atP
theorem OTrs.rvs : ∀ {xs : List V} {os : List OD} {A : List Addr}, OTrs K B H xs os A → ∃ A', OTrs K B H xs.reverse os.reverse A' ∧ ∀ b ∈ A', b ∈ A
  | _, _, _, .nil => ⟨[], .nil, fun b m => m⟩
  | _, _, _, @OTrs.cons _ _ _ v o vs os A1 A2 h1 h2 h3 => by
    obtain ⟨A', k1, k2⟩ := h2.rvs
    refine ⟨A' ++ A1, ?_, fun b m => ?_⟩
    · rw [List.reverse_cons, List.reverse_cons]
      exact k1.snoc h1 fun a m z => h3 a m (k2 a z)
    · rcases List.mem_append.mp m with m | m
      · exact List.mem_append_right _ (k2 b m)
      · exact List.mem_append_left _ m
/-- e.reverse() -/
theorem s_rvT {x : Option V} (I : Into F tc Γ .lst x i o p As os) (k : ∀ As', P.nx (Γ.set i (some (nX F.K x (o.put p (.c .lst os.reverse)) As')))) : SX F (tDrop (tBM0 F.K "list" rReverse tc)) Γ P := fun S B H σ D e pp => by
  obtain ⟨v0, h0, _⟩ := e.ok i _ I.hi
  refine e.evP I.hp h0 fun u H0 eH0 e0 hat => ?_
  obtain ⟨a0, xs0, rfl, ha0, _⟩ := I.isL e0 h0 hat
  obtain ⟨a, xs, A2, ea, h1, h2, h3, h4, go⟩ := e0.putV (v := .non) (o1 := .d .none) (A := []) I.hi h0 hat I.hg ownK_nil (.d .non)
  cases ea
  obtain ⟨A', k1, k2⟩ := h3.rvs
  obtain ⟨As', e2⟩ := go .lst xs.reverse _ _ k1 (fun b m => .inl (k2 b m)) trivial
  exact ⟨.inl ⟨rfl, _, sq_of ha0⟩, _, xs, rfl, rfl, h1, pp.nx _ _ _ _ _ (k As') e2 (Ex.refl _)⟩
/-- a, b = e, f : values without lists that read what is one's own -/
theorem s_parE {d' : PyData} {tb : TE} (ha : ED F te Γ d) (hb : ED F tb Γ d') (k : P.nx ((Γ.set i (some (.d d))).set j (some (.d d')))) : SX F (tPar i j (tCons te (tCons tb tNil))) Γ P := fun S B H σ D e p =>
  ha S B H σ e _ fun v B1 H1 eH1 eB1 e1 r1 => hb S B1 H1 σ e1 _ fun u B2 H2 eH2 eB2 e2 r2 => ⟨v, u, rfl, p.nx _ _ _ _ _ k ((e2.setD (Dq.mono eB2 r1)).setD r2) (eB1.trans eB2)⟩
end
end Pw

/-! ## PwTq -/
namespace Pw
open PySem L2 Evl
/-! ### going over frozen lists of things, copies of frozen dicts -/
def rDictD : List V → Hp → VK → Prop := fun xs H Q => ∃ (a : Addr) (kvs : List (Key × V)), xs = [.ref a] ∧ Rd H a (.dK kvs) ∧ ∀ p, H p = none → Q (.ref p) (upd H p (.dK kvs))
theorem cr_dictD {X : Cx} : CallR X (.type "dict") rDictD := call_dictD
section
variable {F : Fr} {K : PySem.W.Frag} {S : List Addr} {B H : Hp} {σ : L2.St} {Γ : En0} {d : PyData} {te tv : TE} {tt : TT} {wi : TI} {g : TG} {tb : TS} {P : Po} {D : Ends} {i j : Nat} {o : OD} {os : List OD} {ds : List PyData} {As : List Addr}
theorem OTrs.toQ : ∀ {xs : List V} {os : List OD} {As : List Addr}, OTrs K B B xs os As → ∀ {j : Nat} {x : V}, xs[j]? = some x → ∃ o, os[j]? = some o ∧ TRq K o x B
  | _, _, _, .nil, j, x, h => by simp at h
  | _, _, _, .cons h1 h2 h3, 0, x, h => by
    simp only [List.getElem?_cons_zero, Option.some.injEq] at h
    subst h
    exact ⟨_, rfl, _, h1⟩
  | _, _, _, .cons h1 h2 h3, j + 1, x, h => by
    rw [List.getElem?_cons_succ] at h
    obtain ⟨o, g1, g2⟩ := h2.toQ h
    exact ⟨o, g1, g2⟩
/-- a walk over a frozen list of things -/
abbrev xqOf (K : PySem.W.Frag) (os : List OD) : Nat → V → Hp → Prop := fun i x B => ∃ o, os[i]? = some o ∧ TRq K o x B
theorem wk_listQ (h : EvR te σ B (TRq K (.c .lst os))) : Wk (iList K te) σ B os.length (xqOf K os) := fun S H w R k => h.bind w fun v B1 H1 e1 eB1 w1 r => by
  obtain ⟨As, r⟩ := r
  cases r with
  | @c a _ xs _ _ h1 h2 h3 h4 =>
    have h1 : B1 a = some (.lst xs) := h1
    have hl := h3.len
    have hx0 : ∀ {H' : Hp}, Ex B1 H' → SqL K H' a xs := fun e => sq_of (e _ _ h1)
    refine ⟨a, rfl, ⟨xs, hx0 w1.ex⟩, k _ B1 H1 e1 eB1 w1 (fun i H' e hi => ⟨xs, xs[i]'(by omega), hx0 e, List.getElem?_eq_getElem _⟩) (fun i H' e hi => ⟨xs, hx0 e, by omega⟩) fun i S' B' H' x H'' eB w' hi y => ?_⟩
    obtain ⟨rfl, f⟩ := y
    have hx := f _ (hx0 (eB.trans w'.ex))
    obtain ⟨o, g1, g2⟩ := h3.toQ hx
    exact ⟨B', Ex.refl _, Ex.refl _, w', o, g1, stays_TRq _ _ _ eB g2⟩
/-- for x in xs, things of a frozen list -/
theorem s_forQ (h : ER F.K te (hide Γ) (TRq F.K (.c .lst os))) (Iv : Nat → En0 → Prop) (h0 : Iv 0 Γ)
    (turn : ∀ n a Γ', os[n]? = some a → Iv n Γ' → SX F tb (Γ'.set j (some (.q (TRq F.K a)))) { P with nx := Iv (n + 1), ct := Iv (n + 1), bk := P.nx }) (done : ∀ Γ', Iv os.length Γ' → P.nx Γ') : SX F (tFor (iList F.K te) (gName j) tb) Γ P := fun S B H σ D e p => by
  refine wk_listQ (h σ B e.hidden) S H e.w _ fun J B1 H1 e1 eB1 w1 hgo hstop hyld => ?_
  refine ⟨fun i m σ' H' => m = os.length - i ∧ i ≤ os.length ∧ ∃ S' B' Γ', Iv i Γ' ∧ En F S' B' H' σ' Γ' ∧ Ex B1 B', ⟨os.length, by omega, Nat.zero_le _, S, B1, Γ, h0, e.ext e1 eB1 w1, Ex.refl _⟩, ?_⟩
  rintro i m σ2 H2 ⟨rfl, hi, S', B', Γ', hv, e2, eB2⟩
  by_cases hlt : i < os.length
  · refine .inr ⟨hgo i H2 (eB2.trans e2.w.ex) hlt, fun σ' H' => ∃ S' B' Γ', Iv (i + 1) Γ' ∧ En F S' B' H' σ' Γ' ∧ Ex B1 B', fun σ' H' h => ⟨os.length - (i + 1), by omega, rfl, by omega, h⟩, fun x H3 hy => ?_⟩
    obtain ⟨B3, e3, eB3, w3, o, ho, hq⟩ := hyld i S' B' H2 x H3 eB2 e2.w hlt hy
    have e4 := (e2.ext e3 eB3 w3).set (i := j) (t := .q (TRq F.K o)) ⟨stays_TRq, hq⟩ fun z => by cases z
    refine turn i o Γ' ho hv S' B3 H3 _ _ e4 ⟨fun S5 B5 H5 σ5 Γ5 q e5 x5 => ⟨S5, B5, Γ5, q, e5, eB2.trans (eB3.trans x5)⟩, fun S5 B5 H5 σ5 Γ5 v d q e5 x5 hv5 => p.rt S5 B5 H5 σ5 Γ5 v d q e5 (eB1.trans (eB2.trans (eB3.trans x5))) hv5, fun S5 B5 H5 σ5 Γ5 q e5 x5 => p.nx S5 B5 H5 σ5 Γ5 q e5 (eB1.trans (eB2.trans (eB3.trans x5))), fun S5 B5 H5 σ5 Γ5 q e5 x5 => ⟨S5, B5, Γ5, q, e5, eB2.trans (eB3.trans x5)⟩, fun S5 B5 H5 σ5 Γ5 a xs ds q e5 x5 => p.ro S5 B5 H5 σ5 Γ5 a xs ds q e5 (eB1.trans (eB2.trans (eB3.trans x5)))⟩
  · have ei : i = os.length := by omega
    subst ei
    exact .inl ⟨hstop _ H2 (eB2.trans e2.w.ex) rfl, p.nx S' B' H2 σ2 Γ' (done Γ' hv) e2 (eB1.trans eB2)⟩
/-- dict(x) of a frozen dict of data -/
theorem ft_dictD {ks : List Key} (h : ER K te Γ (TRq K (.c (.dK ks) (ds.map .d)))) : FT K (tCB rDictD (tCons te tNil)) Γ (.c (.dK ks) (ds.map .d)) := fun σ B e S H w Q q =>
  (h σ B e).bind w fun v B1 H1 e1 eB1 w1 ⟨As, r⟩ => by
    cases r with
    | @c a _ xs _ _ h1 h2 h3 h4 =>
    have h1 : B1 a = some (.dK (ks.zip xs)) := h1
    obtain ⟨h5, rfl⟩ := h3.toD
    refine ⟨a, _, rfl, .inl (w1.ex _ _ h1), fun p hp => ?_⟩
    refine q (.ref p) B1 _ (p :: S) [p] (e1.trans (Ex.new hp)) eB1 (w1.own hp) (fun b m => List.mem_cons_of_mem _ m) (.c (s := .dK ks) (xs := xs) upd_same h2 (.ofD h5) fun m => by cases m) fun b m => ?_
    rw [List.mem_singleton.mp m]
    exact ⟨List.mem_cons_self, nfr e1 hp⟩
/-- [e for x in xs if t], x things of a frozen list -/
theorem n_lcQ {α : Type} (l : List α) (oe : α → OD) (f : α → Bool) (e : α → PyData) (hk : ER K tv Γ (TRq K (.c .lst (l.map oe)))) (hl : l.length ≤ 40000) (ht : ∀ a ∈ l, EB K tt ((wipeE Γ [j]).set j (some (.q (TRq K (oe a))))) (f a)) (he : ∀ a ∈ l, f a = true → EE K te ((wipeE Γ [j]).set j (some (.q (TRq K (oe a))))) (e a)) :
    EE K (tLc (iList K tv) (gName j) tt te [j]) Γ (.list ((l.filter f).map e)) := fun σ B en S H w Q q => by
  refine wk_listQ (hk σ B en) S H w _ fun J B1 H1 e1 eB1 w1 hgo hstop hyld Dl hD => ?_
  rw [List.length_map] at hgo hstop hyld
  refine ⟨fun i m H' => m = l.length - i ∧ i ≤ l.length ∧ Ex H1 H' ∧ ∃ B' acc, Ex B1 B' ∧ Wd (Dl :: S) B' H' ∧ H' Dl = some (.lst acc) ∧ DqAll K B' acc (((l.take i).filter f).map e), ⟨l.length, by omega, Nat.zero_le _, Ex.new hD, B1, [], Ex.refl _, w1.own hD, upd_same, .nil⟩, ?_⟩
  rintro i m H2 ⟨rfl, hi, eH, B2, acc, eB2, w2, hA, hd⟩
  by_cases hlt : i < l.length
  · obtain ⟨a, ha⟩ : ∃ a, l[i]? = some a := ⟨l[i], List.getElem?_eq_getElem hlt⟩
    have hmem : a ∈ l := List.mem_of_getElem? ha
    refine .inr ⟨hgo i H2 (eB2.trans w2.ex) hlt, fun H' => ∃ B', ∃ acc, Ex H1 H' ∧ Ex B1 B' ∧ Wd (Dl :: S) B' H' ∧ H' Dl = some (.lst acc) ∧ DqAll K B' acc (((l.take (i + 1)).filter f).map e), fun H' ⟨B', acc, h1, h2, h3, h4, h5⟩ => ⟨l.length - (i + 1), by omega, rfl, by omega, h1, B', acc, h2, h3, h4, h5⟩, fun x H3 hy => ?_⟩
    obtain ⟨B3, e3, eB3, w3, o, ho, hq⟩ := hyld i (Dl :: S) B2 H2 x H3 eB2 w2 hlt hy
    have eo : oe a = o := by
      rw [List.getElem?_map, ha] at ho
      exact Option.some.inj ho
    subst eo
    have htk : l.take (i + 1) = l.take i ++ [a] := by rw [List.take_add_one, ha]; rfl
    have hA3 := e3 _ _ hA
    have en2 : EnvF K B3 ((wipe σ [j]).set j (some x)) ((wipeE Γ [j]).set j (some (.q (TRq K (oe a))))) := ((en.wiped [j]).mono (eB1.trans (eB2.trans eB3))).set (s := .q (TRq K (oe a))) ⟨stays_TRq, hq⟩
    refine ⟨wipe_back (by rw [List.length_set, wipe_length]) fun i m => ?_, ((ht a hmem) _ _ en2).bind w3 fun B4 H4 e4 eB4 w4 => ?_⟩
    · rw [List.getElem?_set_ne (fun z : j = i => m (by rw [z]; exact List.mem_singleton.mpr rfl)), wipeS_get, if_neg m]
    · cases hf : f a with
      | true =>
        show te _ H4 _
        refine (((he a hmem hf) _ _ en2).mono eB4).bind w4 fun y B5 H5 e5 eB5 w5 hy5 => ?_
        have hlen : acc.length ≤ l.length := by
          rw [DqAll.length hd, List.length_map]
          refine Nat.le_trans (List.length_filter_le _ _) ?_
          rw [List.length_take]
          exact Nat.min_le_right _ _
        refine ⟨acc, e5 _ _ (e4 _ _ hA3), sz_lt (by omega), B5, acc ++ [y], ?_, eB2.trans (eB3.trans (eB4.trans eB5)), w5.put List.mem_cons_self, upd_same, ?_⟩
        · exact (eH.trans (e3.trans (e4.trans e5))).mut hD
        · rw [htk, List.filter_append, List.filter_cons, if_pos hf, List.map_append]
          exact DqAll.snoc (DqAll.mono (eB3.trans (eB4.trans eB5)) hd) hy5
      | false =>
        refine ⟨B4, acc, eH.trans (e3.trans e4), eB2.trans (eB3.trans eB4), w4, e4 _ _ hA3, ?_⟩
        rw [htk, List.filter_append, List.filter_cons, if_neg (by rw [hf]; decide)]
        show DqAll K B4 acc ((List.filter f (l.take i) ++ []).map e)
        rw [List.append_nil]
        exact DqAll.mono (eB3.trans eB4) hd
  · have ei : i = l.length := by omega
    subst ei
    refine .inl ⟨hstop _ H2 (eB2.trans w2.ex) rfl, q _ _ (e1.trans eH) ?_⟩
    rw [List.take_length] at hd
    have w4 := w2.give hA (w1.nin hD)
    exact Dq.mono (ex_mi w4.ex w4.no) (.lst (sq_of upd_same) (DqAll.mono w2.giveE hd))
/-- an expression around one that tells one of several things -/
theorem x_ctx {R R' : PyData → En0 → Prop} {G : TE → TE} (hG : ∀ σ H Q, te σ H (fun v H1 => G (tC v) σ H1 Q) → G te σ H Q) (h : EX F te Γ R) (k : ∀ d Γ', R d Γ' → ∃ d', (∀ σ B v, Dq F.K B v d → EvD F.K (G (tC v)) σ B d') ∧ R' d' Γ') : EX F (G te) Γ R' := fun S B H σ e Q q => by
  refine hG σ H Q (h S B H σ e _ fun v S' B' H' d Γ' r e' eB hv => ?_)
  obtain ⟨d', h1, h2⟩ := k d Γ' r
  exact (h1 σ B' v hv).bind e'.w fun u B2 H2 e2 eB2 w2 r2 => q u S' B2 H2 d' Γ' h2 (e'.ext e2 eB2 w2) (eB.trans eB2) r2
/-- a, b = e: e tells one of several things -/
theorem s_asgGX {R : PyData → En0 → Prop} (h : EX F te Γ R) (k : ∀ d Γ', R d Γ' → ∃ Γ2, GT F g Γ' d Γ2 ∧ P.nx Γ2) : SX F (tAsg te g) Γ P := fun S B H σ D e p =>
  h S B H σ e _ fun v S' B' H' d Γ' r e' eB hv => by
    obtain ⟨Γ2, hg, hn⟩ := k d Γ' r
    exact hg S' B' H' σ v e' hv _ fun σ' e2 => p.nx S' B' H' σ' _ hn e2 eB
theorem ft_is {o o' : OD} (h : FT K te Γ o) (e : o = o') : FT K te Γ o' := by rw [← e]; exact h
end
end Pw

/-! ## PwTreeW -/
namespace Pw
open PySem PySem.Spec L2 Evl
/-! ### trees: each tie is a bridge (nothing of the program here) -/
def wo (ts : List Tie) (t : Tie) : List Tie := outside ts [(t.1, t.2.1)]
theorem wo_mem {ts : List Tie} {t u : Tie} : u ∈ wo ts t ↔ u ∈ ts ∧ (u.1, u.2.1) ≠ (t.1, t.2.1) := by
  unfold wo outside
  rw [List.mem_filter, Bool.not_eq_true', decide_eq_false_iff_not, List.mem_singleton]
structure TreeW (n : Int) (ts : List Tie) : Prop where
  web : WebOk n ts
  con : ∀ x y, 0 ≤ x ∧ x < n → 0 ≤ y ∧ y < n → Conn ts x y
  bri : ∀ t ∈ ts, ¬ Conn (wo ts t) t.1 t.2.1
inductive HangT (names : List Int) (us : List Tie) (i : Nat) : Int → Prop
  | self {a : Int} : names[i + 1]? = some a → HangT names us i a
  | step {j p : Nat} {a b w : Int} : us[j]? = some (mm a b w) → p ≤ j → names[p]? = some a → names[j + 1]? = some b → HangT names us i a → HangT names us i b
section
variable {names : List Int} {us ts : List Tie} {i : Nat} {n : Int}
theorem HangT.idx (hn : names.Nodup) {x : Int} (h : HangT names us i x) : ∃ k, i + 1 ≤ k ∧ names[k]? = some x := by
  induction h with
  | self h => exact ⟨_, Nat.le_refl _, h⟩
  | step h1 h2 h3 h4 _ ih =>
    obtain ⟨k, hk, e⟩ := ih
    have := nd_at hn e h3
    exact ⟨_, by omega, h4⟩
theorem mm_left {a a' b w w' : Int} (h : mm a b w = mm a' b w') (h1 : a ≠ b) (h2 : a' ≠ b) : a = a' := by
  have g1 := mm_ends (w := w) h1
  have g2 := mm_ends (w := w') h2
  rw [← h] at g2
  omega
theorem HangT.back (hn : names.Nodup) {j p : Nat} {a b w : Int} (hj : j ≠ i) (h1 : us[j]? = some (mm a b w)) (h2 : p ≤ j) (h3 : names[p]? = some a) (h4 : names[j + 1]? = some b) (h : HangT names us i b) : HangT names us i a := by
  cases h with
  | self h => exact absurd (nd_at hn h h4) (by omega)
  | @step j' p' a' _ w' g1 g2 g3 g4 g5 =>
    have e : j' + 1 = j + 1 := nd_at hn g4 h4
    have e2 : j' = j := by omega
    subst e2
    rw [h1] at g1
    have hab : a ≠ b := fun z => by
      subst z
      have := nd_at hn h3 h4
      omega
    have hab' : a' ≠ b := fun z => by
      subst z
      have := nd_at hn g3 h4
      omega
    rw [mm_left (Option.some.inj g1) hab hab']
    exact g5
theorem hang_conn (g : Grown names us) (hn : names.Nodup) {t : Tie} (ht : us[i]? = some t) (hp : ts.Perm us) {x y : Int} (c : Conn (wo ts t) x y) : HangT names us i x ↔ HangT names us i y := by
  induction c with
  | refl => exact Iff.rfl
  | @tail y z _ a ih =>
    refine ih.trans ?_
    obtain ⟨u, hu, e⟩ := a
    obtain ⟨hu1, hu2⟩ := wo_mem.mp hu
    obtain ⟨j, hj⟩ := List.getElem?_of_mem (hp.mem_iff.mp hu1)
    have hji : j ≠ i := fun z => by
      subst z
      rw [ht] at hj
      cases hj
      exact hu2 rfl
    obtain ⟨p, a, b, w, h1, h2, h3, _, _, rfl⟩ := g.tie j u hj
    have hab : a ≠ b := fun z => by
      subst z
      have := nd_at hn h2 h3
      omega
    have key : HangT names us i a ↔ HangT names us i b := ⟨fun h => .step hj h1 h2 h3 h, fun h => HangT.back hn hji hj h1 h2 h3 h⟩
    rcases e with ⟨e1, e2⟩ | ⟨e1, e2⟩ <;> rcases (mm_ends (w := w) hab).2 with ⟨m1, m2⟩ | ⟨m1, m2⟩
    · rw [← e1, ← e2, m1, m2]
      exact key
    · rw [← e1, ← e2, m1, m2]
      exact key.symm
    · rw [← e1, ← e2, m1, m2]
      exact key.symm
    · rw [← e1, ← e2, m1, m2]
      exact key
theorem grown_adj (hn : names.Nodup) (hp : ts.Perm us) {j p : Nat} {a b w : Int} (hj : us[j]? = some (mm a b w)) (h2 : p ≤ j) (h3 : names[p]? = some a) (h4 : names[j + 1]? = some b) : Adj ts a b := by
  have hab : a ≠ b := fun z => by
    subst z
    have := nd_at hn h3 h4
    omega
  exact ⟨_, hp.mem_iff.mpr (List.mem_of_getElem? hj), (mm_ends (w := w) hab).2⟩
theorem TreeOf.to0 (T : TreeOf n names us ts) {a0 : Int} (h0 : names[0]? = some a0) : ∀ (k i : Nat) (a : Int), i ≤ k → names[i]? = some a → Conn ts a0 a
  | k, 0, a, _, h => by
    rw [h0] at h
    cases h
    exact .refl
  | 0, i + 1, a, hk, h => by omega
  | k + 1, i + 1, a, hk, h => by
    have hl := (List.getElem?_eq_some_iff.mp h).1
    have hnl : names.length = n.toNat := by rw [T.perm.length_eq, rngI_len]
    have hul := T.len
    have hi : i < us.length := by omega
    obtain ⟨p, a', b, w, h1, h2, h3, _, _, e⟩ := T.grown.tie i _ (List.getElem?_eq_getElem hi)
    rw [h] at h3
    cases h3
    have hu : us[i]? = some (mm a' a w) := by rw [← e]; exact List.getElem?_eq_getElem hi
    exact (TreeOf.to0 T h0 k p a' (by omega) h2).tail (grown_adj T.nd T.same hu h1 h2 h)
theorem TreeOf.treeW (T : TreeOf n names us ts) : TreeW n ts where
  web := T.web
  con := fun x y hx hy => by
    have at_ : ∀ x : Int, 0 ≤ x ∧ x < n → ∃ i, names[i]? = some x := fun x hx => List.getElem?_of_mem (T.perm.mem_iff.mpr (rngI_mem.mpr (by omega)))
    have hnl : names.length = n.toNat := by rw [T.perm.length_eq, rngI_len]
    have h0 := List.getElem?_eq_getElem (l := names) (i := 0) (by omega)
    obtain ⟨i, hi⟩ := at_ x hx
    obtain ⟨j, hj⟩ := at_ y hy
    exact (T.to0 h0 i i x (Nat.le_refl _) hi).symm.trans (T.to0 h0 j j y (Nat.le_refl _) hj)
  bri := fun t ht c => by
    obtain ⟨i, hi⟩ := List.getElem?_of_mem (T.same.mem_iff.mp ht)
    have hc := hang_conn T.grown T.nd hi T.same c
    obtain ⟨p, a, b, w, h1, h2, h3, _, _, rfl⟩ := T.grown.tie i t hi
    have hab : a ≠ b := fun z => by
      subst z
      have := nd_at T.nd h2 h3
      omega
    have hb : HangT names us i b := .self h3
    have ha : ¬ HangT names us i a := fun h => by
      obtain ⟨k, hk, e⟩ := h.idx T.nd
      have := nd_at T.nd e h2
      omega
    rcases (mm_ends (w := w) hab).2 with ⟨m1, m2⟩ | ⟨m1, m2⟩
    · rw [m1, m2] at hc
      exact ha (hc.mpr hb)
    · rw [m1, m2] at hc
      exact ha (hc.mp hb)
end
def mP (p : Int × Int) : Int × Int := (if p.2 < p.1 then p.2 else p.1, if p.2 > p.1 then p.2 else p.1)
def wOfT (ts : List Tie) (k : Int × Int) : Int := ((ts.find? fun t => decide ((t.1, t.2.1) = k)).map (·.2.2)).getD 0
theorem tie_one {n : Int} {ts : List Tie} (hW : WebOk n ts) {t u : Tie} (ht : t ∈ ts) (hu : u ∈ ts) (e : (t.1, t.2.1) = (u.1, u.2.1)) : t = u := by
  rw [Prod.mk.injEq] at e
  refine Classical.byContradiction fun hne => ?_
  obtain ⟨i, hi⟩ := List.getElem?_of_mem ht
  obtain ⟨j, hj⟩ := List.getElem?_of_mem hu
  obtain ⟨hil, hi2⟩ := List.getElem?_eq_some_iff.mp hi
  obtain ⟨hjl, hj2⟩ := List.getElem?_eq_some_iff.mp hj
  have key := List.pairwise_iff_getElem.mp hW.rise
  rcases Nat.lt_trichotomy i j with h | h | h
  · have := key i j hil hjl h
    rw [hi2, hj2] at this
    unfold pairLt at this
    omega
  · subst h
    rw [hi] at hj
    exact hne (Option.some.inj hj)
  · have := key j i hjl hil h
    rw [hi2, hj2] at this
    unfold pairLt at this
    omega
section
variable {n : Int} {ts : List Tie}
theorem mP_tie {x y : Int} {t : Tie} (ht : t.1 < t.2.1) (h : t.1 = x ∧ t.2.1 = y ∨ t.1 = y ∧ t.2.1 = x) : mP (x, y) = (t.1, t.2.1) := by
  unfold mP
  rw [Prod.mk.injEq]
  constructor
  · show (if y < x then y else x) = _
    split <;> omega
  · show (if y > x then y else x) = _
    split <;> omega
theorem wOfT_at (hW : WebOk n ts) {t : Tie} (ht : t ∈ ts) : wOfT ts (t.1, t.2.1) = t.2.2 := by
  unfold wOfT
  cases g : ts.find? fun u => decide ((u.1, u.2.1) = (t.1, t.2.1)) with
  | none =>
    have := List.find?_eq_none.mp g t ht
    exact absurd (decide_eq_true rfl) this
  | some u =>
    have h1 := List.mem_of_find?_eq_some g
    have h2 : (u.1, u.2.1) = (t.1, t.2.1) := of_decide_eq_true (List.find?_some (p := fun u : Tie => decide ((u.1, u.2.1) = (t.1, t.2.1))) g)
    rw [tie_one hW h1 ht h2]
    rfl
end
end Pw

/-! ## PwTup -/
namespace Pw
open PySem PySem.Spec PyProof.Rows L2 Evl
theorem tuple_mul1 (l : Addr) (items : Array Value) (n : Nat) (dd : Option Addr) (sl : Array (Option Value)) (u : Tok) :
    Meets (Builtin.«tuple.__mul__» ⟨[.ref l, .int 1 u], []⟩) (fun _ R s => s.heap.get? l = some { cls := .type "tuple", dict := dd, data := .seq items n, slots := sl } ∧ R (.ok (.ret (Value.ref l))) s) :=
  .of_wp fun prog w A R s h => by
    obtain ⟨hp, g, d, tk, os⟩ := s
    obtain ⟨hl, h⟩ := h
    have f1 := AutoSeq1.idx_int
    wp_walk using wpAny_loadPart' hl
    have c1 : (items.isEmpty || (1 : Int) == 1) = true := by rw [Bool.or_comm]; rfl
    exact ⟨_, rfl, h⟩
def rRepT1 (K : PySem.W.Frag) : R2 := fun x y H Q => ∃ l xs, x = .ref l ∧ y = .int 1 ∧ SqT K H l xs ∧ Q (.ref l) H
section
variable {X : Cx}
/-- t * 1 is t -/
theorem op_repT1 : OpR X (binaryOp .Mult) (rRepT1 X.K) := by
  intro pins s σ H x y v u Q I rx ry h
  obtain ⟨l, xs, rfl, rfl, hT, q⟩ := h
  cases rx
  obtain ⟨t, rfl⟩ := ry
  obtain ⟨its, r, ⟨⟨cls, dd, data, sl⟩, ho, hc, n, hd⟩, hs⟩ := I.tuple hT
  simp only at hc hd
  subst hc hd
  exact wpAny_binaryOp_repeat_ref (T := "tuple") (U := "int") (by decide) ⟨_, ho, rfl⟩ (fun s' => typeIs_int s' 1 t) noFill_tuple_mul F.fills_int_mul F.slot_int_rmul repeat_tuple F.slot_int_index.lookup
    (call_meets F.slot_int_rmul (typeIs_int s 1 t) F.entry_int_rmul (F.args_int_rmul_2 _ _) (int_rmul_tuple 1 t l its.toArray n dd sl)
      ⟨ho, rfl, ⟨_, ho, rfl⟩, call_meets F.slot_tuple_mul ⟨_, ho, rfl⟩ F.entry_tuple_mul (F.args_tuple_mul_2 _ _) (tuple_mul1 l its.toArray n dd sl t) ⟨ho, .ref l, H, I, rfl, q⟩⟩)
theorem reads_intsT {h : Heap} : ∀ {its : List Value} {ns : List Int}, IntsAre its ns → ReadsAll h its (ns.map .int) []
  | _, _, .nil => .nil
  | _, _, .cons n t r => .cons (.int n t) (reads_intsT r)
theorem foldl_max : ∀ (ns : List Int) (n : Int), ns.foldl max n ∈ n :: ns ∧ ∀ y ∈ n :: ns, y ≤ ns.foldl max n
  | [], n => ⟨List.mem_cons_self, fun y hy => by rw [List.mem_singleton.mp hy]; exact Int.le_refl _⟩
  | k :: r, n => by
    obtain ⟨h1, h2⟩ := foldl_max r (max n k)
    show List.foldl max (max n k) r ∈ _ ∧ ∀ y ∈ _, y ≤ List.foldl max (max n k) r
    have h3 := h2 (max n k) List.mem_cons_self
    refine ⟨?_, fun y hy => ?_⟩
    · rcases List.mem_cons.mp h1 with e | e
      · rw [e]
        by_cases q : n ≤ k
        · rw [Int.max_eq_right q]
          exact List.mem_cons_of_mem _ List.mem_cons_self
        · rw [Int.max_eq_left (by omega)]
          exact List.mem_cons_self
      · exact List.mem_cons_of_mem _ (List.mem_cons_of_mem _ e)
    · rcases List.mem_cons.mp hy with rfl | hy
      · have := Int.le_max_left y k
        omega
      · rcases List.mem_cons.mp hy with rfl | hy
        · have := Int.le_max_right n y
          omega
        · exact h2 y (List.mem_cons_of_mem _ hy)
theorem depth_ints : ∀ ns : List Int, PyData.depthAll (ns.map .int) = 0
  | [] => by simp [PyData.depthAll]
  | _ :: r => by simp [PyData.depthAll, PyData.depth, depth_ints r]
/-- max of a tuple of ints -/
def rMaxT (K : PySem.W.Frag) : List V → Hp → VK → Prop := fun vs H Q => ∃ (a : Addr) (ns : List Int), vs = [V.ref a] ∧ SqT K H a (ns.map V.int) ∧ 0 < ns.length ∧ ∀ m, m ∈ ns → (∀ y, y ∈ ns → y ≤ m) → Q (.int m) H
theorem cr_maxT (hc : X.calm = true) (hu : X.A.units + 64 < cLine) : CallR X (.builtin "max") (rMaxT X.K) := by
  intro pins s σ H vs us Q I r h
  obtain ⟨a, ns, rfl, hs, hne, q⟩ := h
  obtain ⟨its, rv, hl, _⟩ := I.tuple hs
  rw [Vals.ref1 r]
  match ns, hne with
  | n :: rest, _ =>
  have hr : ReadsAll s.heap its.toArray.toList (.int n :: rest.map .int) [] := by
    have := reads_intsT (h := s.heap) rv.ints
    simpa using this
  refine PySem.W.max_tuple_data (I.ok.hd hc) hl hr ⟨fun x hx y hy => ?_, fun x hx => ?_⟩ ?_ fun i v h' tk bs _ rd hk => ?_
  · obtain ⟨i, _, rfl⟩ := List.mem_map.mp (show x ∈ (n :: rest).map PyData.int from hx)
    obtain ⟨j, _, rfl⟩ := List.mem_map.mp (show y ∈ (n :: rest).map PyData.int from hy)
    rfl
  · obtain ⟨i, _, rfl⟩ := List.mem_map.mp (show x ∈ (n :: rest).map PyData.int from hx)
    exact fun z => by cases z
  · have := depth_ints (n :: rest)
    rw [List.map_cons] at this
    rw [this]
    omega
  · rw [PySem.W.maxD_ints] at rd
    cases rd
    obtain ⟨h1, h2⟩ := foldl_max rest n
    exact ⟨.int _, H, I.kept hk, ⟨_, rfl⟩, q _ h1 h2⟩
end
end Pw

/-! ## PwMerge -/
namespace Pw
open PySem L2 Evl
/-! ### places made one -/
def nmA (names : List Int) (p : Int) : Int := (names[p.toNat]?).getD 0
def keyP (names : List Int) (a b : Int) : Int × Int := (if nmA names b < nmA names a then nmA names b else nmA names a, if nmA names b > nmA names a then nmA names b else nmA names a)
abbrev keyT (names : List Int) (t : Tie) : Int × Int := keyP names t.1 t.2.1
def Wt (names : List Int) (ts : List Tie) (k : Int × Int) : Int := ((ts.filter fun t => decide (keyT names t = k)).map fun t => t.2.2).sum
theorem Wt_nil (names : List Int) (k : Int × Int) : Wt names [] k = 0 := rfl
theorem Wt_cons (names : List Int) (t : Tie) (ts : List Tie) (k : Int × Int) : Wt names (t :: ts) k = (if keyT names t = k then t.2.2 else 0) + Wt names ts k := by
  unfold Wt
  by_cases h : keyT names t = k
  · rw [List.filter_cons, if_pos (decide_eq_true h), if_pos h, List.map_cons, List.sum_cons]
  · rw [List.filter_cons, if_neg (by rw [decide_eq_false h]; decide), if_neg h, Int.zero_add]
theorem Wt_snoc (names : List Int) (t : Tie) (k : Int × Int) : ∀ ts : List Tie, Wt names (ts ++ [t]) k = Wt names ts k + (if keyT names t = k then t.2.2 else 0)
  | [] => by rw [List.nil_append, Wt_cons, Wt_nil]; omega
  | u :: r => by rw [List.cons_append, Wt_cons, Wt_cons, Wt_snoc names t k r]; omega
theorem Wt_pos {names : List Int} {k : Int × Int} : ∀ {ts : List Tie}, (∀ t ∈ ts, 1 ≤ t.2.2) → 0 ≤ Wt names ts k ∧ ((∃ t ∈ ts, keyT names t = k) → 0 < Wt names ts k)
  | [], _ => ⟨Int.le_refl _, fun ⟨t, h, _⟩ => by cases h⟩
  | u :: r, h => by
    obtain ⟨h1, h2⟩ := Wt_pos (k := k) (names := names) (ts := r) fun t ht => h t (List.mem_cons_of_mem _ ht)
    have h3 := h u List.mem_cons_self
    rw [Wt_cons]
    refine ⟨by split <;> omega, ?_⟩
    rintro ⟨t, ht, e⟩
    rcases List.mem_cons.mp ht with rfl | ht
    · rw [if_pos e]; omega
    · have := h2 ⟨t, ht, e⟩
      split <;> omega
def lexM (m : Int) : List (Int × Int) := (rngI 0 m.toNat).flatMap fun a => (rngI 0 m.toNat).map fun b => (a, b)
theorem lexM_rise (m : Int) : (lexM m).Pairwise pltP := by
  unfold lexM
  rw [List.pairwise_flatMap]
  refine ⟨fun a _ => ?_, (rngI_lt 0 _).imp fun {a a'} h x hx y hy => ?_⟩
  · rw [List.pairwise_map]
    exact (rngI_lt 0 _).imp fun h => .inr ⟨rfl, h⟩
  · obtain ⟨b, _, rfl⟩ := List.mem_map.mp hx
    obtain ⟨b', _, rfl⟩ := List.mem_map.mp hy
    exact .inl h
theorem lexM_mem {m : Int} {p : Int × Int} : p ∈ lexM m ↔ (0 ≤ p.1 ∧ p.1 < m) ∧ 0 ≤ p.2 ∧ p.2 < m := by
  unfold lexM
  rw [List.mem_flatMap]
  constructor
  · rintro ⟨a, ha, hp⟩
    obtain ⟨b, hb, rfl⟩ := List.mem_map.mp hp
    have := rngI_mem.mp ha
    have := rngI_mem.mp hb
    show (0 ≤ a ∧ a < m) ∧ 0 ≤ b ∧ b < m
    omega
  · rintro ⟨h1, h2⟩
    exact ⟨p.1, rngI_mem.mpr ⟨h1.1, by omega⟩, List.mem_map.mpr ⟨p.2, rngI_mem.mpr ⟨h2.1, by omega⟩, rfl⟩⟩
theorem lexM_nodup (m : Int) : (lexM m).Nodup := (lexM_rise m).imp fun {a b} h e => by
  subst e
  unfold pltP at h
  omega
def prsM (m : Int) (names : List Int) (ts : List Tie) : List (Int × Int) := (lexM m).filter fun p => decide (p.1 < p.2) && decide (0 < Wt names ts p)
def mrgL (m : Int) (names : List Int) (ts : List Tie) : List Tie := (prsM m names ts).map fun p => (p.1, p.2, Wt names ts p)
theorem prsM_mem {m : Int} {names : List Int} {ts : List Tie} {p : Int × Int} : p ∈ prsM m names ts ↔ (0 ≤ p.1 ∧ p.1 < p.2 ∧ p.2 < m) ∧ 0 < Wt names ts p := by
  unfold prsM
  rw [List.mem_filter, lexM_mem, Bool.and_eq_true, decide_eq_true_iff, decide_eq_true_iff]
  constructor
  · rintro ⟨⟨h1, h2⟩, h3, h4⟩
    exact ⟨⟨h1.1, h3, h2.2⟩, h4⟩
  · rintro ⟨⟨h1, h2, h3⟩, h4⟩
    exact ⟨⟨⟨h1, by omega⟩, by omega, h3⟩, h2, h4⟩
theorem mrgL_mem {m : Int} {names : List Int} {ts : List Tie} {t : Tie} : t ∈ mrgL m names ts ↔ (0 ≤ t.1 ∧ t.1 < t.2.1 ∧ t.2.1 < m) ∧ 0 < t.2.2 ∧ Wt names ts (t.1, t.2.1) = t.2.2 := by
  unfold mrgL
  rw [List.mem_map]
  constructor
  · rintro ⟨p, hp, rfl⟩
    have := prsM_mem.mp hp
    exact ⟨this.1, this.2, rfl⟩
  · rintro ⟨h1, h2, h3⟩
    exact ⟨(t.1, t.2.1), prsM_mem.mpr ⟨h1, by rw [h3]; exact h2⟩, by rw [h3]⟩
theorem mrgL_rise (m : Int) (names : List Int) (ts : List Tie) : (mrgL m names ts).Pairwise pairLt := by
  unfold mrgL
  rw [List.pairwise_map]
  exact ((lexM_rise m).filter _).imp fun h => h
theorem ties_eq : ∀ {l m : List Tie}, l.Pairwise pairLt → m.Pairwise pairLt → (∀ x, x ∈ l ↔ x ∈ m) → l = m
  | [], [], _, _, _ => rfl
  | [], b :: m, _, _, h => by cases (h b).mpr List.mem_cons_self
  | a :: l, [], _, _, h => by cases (h a).mp List.mem_cons_self
  | a :: l, b :: m, h1, h2, h => by
    rw [List.pairwise_cons] at h1 h2
    have irr : ∀ {p q : Tie}, pairLt p q → pairLt q p → False := fun {p q} x y => by
      unfold pairLt at x y
      omega
    have e : a = b := by
      rcases List.mem_cons.mp ((h a).mp List.mem_cons_self) with e | e
      · exact e
      · rcases List.mem_cons.mp ((h b).mpr List.mem_cons_self) with e' | e'
        · exact e'.symm
        · exact (irr (h2.1 a e) (h1.1 b e')).elim
    subst e
    congr 1
    refine ties_eq h1.2 h2.2 fun x => ?_
    constructor
    · intro hx
      rcases List.mem_cons.mp ((h x).mp (List.mem_cons_of_mem _ hx)) with e | e
      · subst e
        exact (irr (h1.1 x hx) (h1.1 x hx)).elim
      · exact e
    · intro hx
      rcases List.mem_cons.mp ((h x).mpr (List.mem_cons_of_mem _ hx)) with e | e
      · subst e
        exact (irr (h2.1 x hx) (h2.1 x hx)).elim
      · exact e
theorem mrgL_of {m : Int} {names : List Int} {ts ts' : List Tie} (h1 : ts'.Pairwise pairLt) (h2 : ∀ t, t ∈ ts' ↔ (0 ≤ t.1 ∧ t.1 < t.2.1 ∧ t.2.1 < m) ∧ 0 < t.2.2 ∧ Wt names ts (t.1, t.2.1) = t.2.2) : ts' = mrgL m names ts :=
  ties_eq h1 (mrgL_rise m names ts) fun t => by rw [h2, mrgL_mem]
/-! ### sums -/
theorem sum_one {k : Int × Int} {w : Int} : ∀ {P : List (Int × Int)}, P.Nodup → (P.map fun p => if k = p then w else 0).sum = if k ∈ P then w else 0
  | [], _ => rfl
  | p :: r, h => by
    rw [List.nodup_cons] at h
    rw [List.map_cons, List.sum_cons, sum_one h.2]
    by_cases e : k = p
    · subst e
      rw [if_pos rfl, if_neg h.1, if_pos List.mem_cons_self, Int.add_zero]
    · rw [if_neg e, Int.zero_add]
      by_cases q : k ∈ r
      · rw [if_pos q, if_pos (List.mem_cons_of_mem _ q)]
      · rw [if_neg q, if_neg (fun z => (List.mem_cons.mp z).elim e q)]
theorem sum_add {α : Type} (f g : α → Int) : ∀ l : List α, (l.map fun x => f x + g x).sum = (l.map f).sum + (l.map g).sum
  | [] => rfl
  | x :: r => by
    rw [List.map_cons, List.map_cons, List.map_cons, List.sum_cons, List.sum_cons, List.sum_cons, sum_add f g r]
    omega
theorem sum_keys {names : List Int} {P : List (Int × Int)} (hP : P.Nodup) : ∀ ts : List Tie, (P.map fun p => Wt names ts p).sum = ((ts.filter fun t => decide (keyT names t ∈ P)).map fun t => t.2.2).sum
  | [] => by
    have : ∀ P : List (Int × Int), (P.map fun p => Wt names [] p).sum = 0 := by
      intro P
      induction P with
      | nil => rfl
      | cons p r ih => rw [List.map_cons, List.sum_cons, ih, Wt_nil]; rfl
    exact this P
  | t :: r => by
    have e : (P.map fun p => Wt names (t :: r) p) = P.map fun p => (if keyT names t = p then t.2.2 else 0) + Wt names r p := List.map_congr_left fun p _ => Wt_cons names t r p
    rw [e, sum_add, sum_one hP, sum_keys hP r, List.filter_cons]
    by_cases q : keyT names t ∈ P
    · rw [if_pos q, if_pos (decide_eq_true q), List.map_cons, List.sum_cons]
    · rw [if_neg q, if_neg (by rw [decide_eq_false q]; decide), Int.zero_add]
/-- the merged ties of some pairs weigh what the ties of these pairs do -/
theorem mrgL_sum {m : Int} {names : List Int} {ts : List Tie} (hw : ∀ t ∈ ts, 1 ≤ t.2.2) (hk : ∀ t ∈ ts, 0 ≤ (keyT names t).1 ∧ (keyT names t).2 < m) (c : Int × Int → Bool) :
    (((mrgL m names ts).filter fun u => c (u.1, u.2.1)).map fun u => u.2.2).sum = ((ts.filter fun t => decide ((keyT names t).1 < (keyT names t).2) && c (keyT names t)).map fun t => t.2.2).sum := by
  have e1 : (((mrgL m names ts).filter fun u => c (u.1, u.2.1)).map fun u => u.2.2) = ((prsM m names ts).filter c).map fun p => Wt names ts p := by
    unfold mrgL
    rw [List.filter_map, List.map_map]
    rfl
  have hnd : ((prsM m names ts).filter c).Nodup := ((lexM_nodup m).filter _).filter _
  rw [e1, sum_keys hnd]
  congr 2
  refine List.filter_congr fun t ht => ?_
  rw [Bool.eq_iff_iff, decide_eq_true_iff, List.mem_filter, prsM_mem, Bool.and_eq_true, decide_eq_true_iff]
  have h1 := hk t ht
  have h2 := (Wt_pos (names := names) (k := keyT names t) hw).2 ⟨t, ht, rfl⟩
  constructor
  · rintro ⟨⟨h3, _⟩, h4⟩
    exact ⟨h3.2.1, h4⟩
  · rintro ⟨h3, h4⟩
    exact ⟨⟨⟨h1.1, h3, h1.2⟩, h2⟩, h4⟩
theorem nmA_map {names : List Int} {g : Int → Int} {p : Int} (h0 : 0 ≤ p) (h1 : p.toNat < names.length) : nmA (names.map g) p = g (nmA names p) := by
  unfold nmA
  rw [List.getElem?_map, List.getElem?_eq_getElem h1]
  rfl
theorem Wt_comp {m n : Int} {names more : List Int} {ts : List Tie} (hw : ∀ t ∈ ts, 1 ≤ t.2.2) (hin : TiesIn n ts) (hl : names.length = n.toNat) (hk : ∀ t ∈ ts, 0 ≤ (keyT names t).1 ∧ (keyT names t).2 < m) {k : Int × Int} (hk2 : k.1 < k.2) :
    Wt more (mrgL m names ts) k = Wt (names.map (nmA more)) ts k := by
  have h := mrgL_sum hw hk (fun p => decide (keyP more p.1 p.2 = k))
  unfold Wt
  refine h.trans ?_
  congr 2
  refine List.filter_congr fun t ht => ?_
  have hr := hin t ht
  have e1 : nmA (names.map (nmA more)) t.1 = nmA more (nmA names t.1) := nmA_map hr.1 (by omega)
  have e2 : nmA (names.map (nmA more)) t.2.1 = nmA more (nmA names t.2.1) := nmA_map (by omega) (by omega)
  show (decide ((keyP names t.1 t.2.1).1 < (keyP names t.1 t.2.1).2) && decide (keyP more (keyP names t.1 t.2.1).1 (keyP names t.1 t.2.1).2 = k)) = decide (keyP (names.map (nmA more)) t.1 t.2.1 = k)
  unfold keyP
  rw [e1, e2]
  obtain ⟨k1, k2⟩ := k
  simp only at hk2
  generalize nmA names t.1 = x
  generalize nmA names t.2.1 = y
  rw [Bool.eq_iff_iff, Bool.and_eq_true, decide_eq_true_iff, decide_eq_true_iff, decide_eq_true_iff, Prod.mk.injEq, Prod.mk.injEq]
  rcases Int.lt_trichotomy x y with q | q | q
  · rw [if_neg (show ¬ y < x by omega), if_pos (show y > x by omega)]
    exact ⟨fun h => h.2, fun h => ⟨q, h⟩⟩
  · subst q
    rw [if_neg (show ¬ x < x by omega)]
    dsimp only
    generalize nmA more x = z
    rw [if_neg (show ¬ z < z by omega)]
    omega
  · rw [if_pos (show y < x by omega), if_neg (show ¬ y > x by omega)]
    generalize nmA more x = gx
    generalize nmA more y = gy
    rcases Int.lt_trichotomy gx gy with r | r | r
    · rw [if_pos (show gx < gy by omega), if_neg (show ¬ gx > gy by omega), if_neg (show ¬ gy < gx by omega), if_pos (show gy > gx by omega)]
      dsimp only
      omega
    · subst r
      rw [if_neg (show ¬ gx < gx by omega)]
      dsimp only
      omega
    · rw [if_neg (show ¬ gx < gy by omega), if_pos (show gx > gy by omega), if_pos (show gy < gx by omega), if_neg (show ¬ gy > gx by omega)]
      dsimp only
      omega
theorem mrgL_comp {m m2 n : Int} {names more : List Int} {ts : List Tie} (hw : ∀ t ∈ ts, 1 ≤ t.2.2) (hin : TiesIn n ts) (hl : names.length = n.toNat) (hk : ∀ t ∈ ts, 0 ≤ (keyT names t).1 ∧ (keyT names t).2 < m) :
    mrgL m2 more (mrgL m names ts) = mrgL m2 (names.map (nmA more)) ts := by
  refine mrgL_of (mrgL_rise _ _ _) fun t => ?_
  rw [mrgL_mem]
  constructor
  · rintro ⟨h1, h2, h3⟩
    exact ⟨h1, h2, by rw [← Wt_comp hw hin hl hk (k := (t.1, t.2.1)) h1.2.1]; exact h3⟩
  · rintro ⟨h1, h2, h3⟩
    exact ⟨h1, h2, by rw [Wt_comp hw hin hl hk (k := (t.1, t.2.1)) h1.2.1]; exact h3⟩
theorem nmA_id {n p : Int} (h0 : 0 ≤ p) (h1 : p < n) : nmA (rngI 0 n.toNat) p = p := by
  unfold nmA
  rw [rngI_get (by omega)]
  show (0 : Int) + ((p.toNat : Nat) : Int) = p
  omega
theorem Wt_own {names : List Int} : ∀ {us : List Tie}, (∀ t ∈ us, keyT names t = (t.1, t.2.1)) → us.Pairwise pairLt → ∀ a b : Int, (∀ w, (a, b, w) ∈ us → Wt names us (a, b) = w) ∧ ((∀ w, (a, b, w) ∉ us) → Wt names us (a, b) = 0)
  | [], _, _, a, b => ⟨fun w h => (by cases h), fun _ => rfl⟩
  | u :: r, hk, hp, a, b => by
    rw [List.pairwise_cons] at hp
    obtain ⟨h1, h2⟩ := Wt_own (fun t ht => hk t (List.mem_cons_of_mem _ ht)) hp.2 a b
    rw [Wt_cons, hk u List.mem_cons_self]
    by_cases e : (u.1, u.2.1) = (a, b)
    · rw [if_pos e]
      have e1 : u.1 = a := congrArg Prod.fst e
      have e2 : u.2.1 = b := congrArg Prod.snd e
      have hno : ∀ w, (a, b, w) ∉ r := fun w h => by
        have h3 := hp.1 _ h
        unfold pairLt at h3
        have h4 : u.1 < a ∨ u.1 = a ∧ u.2.1 < b := h3
        omega
      rw [h2 hno]
      refine ⟨fun w h => ?_, fun h => ?_⟩
      · rcases List.mem_cons.mp h with h | h
        · rw [← h]; exact Int.add_zero _
        · exact absurd h (hno w)
      · exact absurd (show (a, b, u.2.2) ∈ u :: r by rw [← e1, ← e2]; exact List.mem_cons_self) (h u.2.2)
    · rw [if_neg e, Int.zero_add]
      refine ⟨fun w h => ?_, fun h => h2 fun w hw => h w (List.mem_cons_of_mem _ hw)⟩
      rcases List.mem_cons.mp h with h | h
      · exact absurd (by rw [← h]) e
      · exact h1 w h
theorem mrgL_id {n : Int} {ts : List Tie} (h : WebOk n ts) : mrgL n (rngI 0 n.toNat) ts = ts := by
  have hk : ∀ t ∈ ts, keyT (rngI 0 n.toNat) t = (t.1, t.2.1) := fun t ht => by
    obtain ⟨h1, h2, h3, _⟩ := h.tie t ht
    show keyP _ _ _ = _
    unfold keyP
    rw [nmA_id h1 (by omega), nmA_id (by omega) h3, if_neg (by omega), if_pos (by omega)]
  refine (mrgL_of h.rise fun t => ?_).symm
  obtain ⟨h1, h2⟩ := Wt_own hk h.rise t.1 t.2.1
  constructor
  · intro ht
    obtain ⟨g1, g2, g3, g4, _⟩ := h.tie t ht
    exact ⟨⟨g1, g2, g3⟩, by omega, h1 t.2.2 ht⟩
  · rintro ⟨_, g2, g3⟩
    by_cases q : ∃ w, (t.1, t.2.1, w) ∈ ts
    · obtain ⟨w, hw⟩ := q
      have := h1 w hw
      rw [g3] at this
      rw [← this] at hw
      exact hw
    · rw [h2 fun w hw => q ⟨w, hw⟩] at g3
      omega
theorem mrgL_one (names : List Int) (ts : List Tie) : mrgL 1 names ts = [] := by
  refine List.eq_nil_iff_forall_not_mem.mpr fun t ht => ?_
  have := (mrgL_mem.mp ht).1
  omega
theorem mrgL_len {m : Int} {names : List Int} {ts : List Tie} (hm : 0 ≤ m ∧ m ≤ 30) : (mrgL m names ts).length ≤ 900 := by
  unfold mrgL prsM
  rw [List.length_map]
  refine Nat.le_trans (List.length_filter_le _ _) ?_
  have e : (lexM m).length = m.toNat * m.toNat := by
    unfold lexM
    rw [List.length_flatMap]
    have : ((rngI 0 m.toNat).map fun a => ((rngI 0 m.toNat).map fun b => (a, b)).length) = List.replicate m.toNat m.toNat := by
      rw [List.eq_replicate_iff]
      refine ⟨by rw [List.length_map, rngI_len], fun x hx => ?_⟩
      obtain ⟨a, _, rfl⟩ := List.mem_map.mp hx
      rw [List.length_map, rngI_len]
    rw [this, List.sum_replicate_nat]
  rw [e]
  have h2 : m.toNat ≤ 30 := by omega
  exact Nat.le_trans (Nat.mul_le_mul h2 h2) (by decide)
theorem nodup_len {α : Type} [DecidableEq α] : ∀ {l m : List α}, l.Nodup → (∀ x ∈ l, x ∈ m) → l.length ≤ m.length
  | [], _, _, _ => Nat.zero_le _
  | a :: r, m, h, hs => by
    rw [List.nodup_cons] at h
    have h1 := nodup_len (m := m.erase a) h.2 fun x hx => by
      have hxa : x ≠ a := fun z => h.1 (z ▸ hx)
      exact (List.mem_erase_of_ne hxa).mpr (hs x (List.mem_cons_of_mem _ hx))
    have h2 := List.length_erase_of_mem (hs a List.mem_cons_self)
    have h3 : 0 < m.length := List.length_pos_of_mem (hs a List.mem_cons_self)
    rw [List.length_cons]
    omega
theorem Wt_zero {names : List Int} {k : Int × Int} : ∀ {ts : List Tie}, (∀ t ∈ ts, keyT names t ≠ k) → Wt names ts k = 0
  | [], _ => rfl
  | u :: r, h => by
    rw [Wt_cons, if_neg (h u List.mem_cons_self), Wt_zero fun t ht => h t (List.mem_cons_of_mem _ ht)]
    rfl
theorem mrgL_few {m : Int} {names : List Int} {ts : List Tie} : (mrgL m names ts).length ≤ ts.length := by
  unfold mrgL
  rw [List.length_map]
  have h := nodup_len (l := prsM m names ts) (m := ts.map fun t => keyT names t) ((lexM_nodup m).filter _) fun p hp => by
    have h1 := (prsM_mem.mp hp).2
    by_cases q : ∃ t ∈ ts, keyT names t = p
    · obtain ⟨t, ht, e⟩ := q
      exact List.mem_map.mpr ⟨t, ht, e⟩
    · rw [Wt_zero fun t ht e => q ⟨t, ht, e⟩] at h1
      exact absurd h1 (by decide)
  rw [List.length_map] at h
  exact h
theorem mrgL_web {m : Int} {names : List Int} {ts : List Tie} (hm : 1 ≤ m) (hl : ts.length ≤ 100) : WebOk m (mrgL m names ts) := ⟨hm, fun t ht => by
  obtain ⟨h1, h2, _⟩ := mrgL_mem.mp ht
  exact ⟨h1.1, h1.2.1, h1.2.2, h2, Int.le_refl _⟩, mrgL_rise _ _ _, Nat.le_trans mrgL_few hl⟩
/-- numbers for n places, below m, the greatest one among them -/
structure NmOk (n m : Int) (names : List Int) : Prop where
  len : names.length = n.toNat
  rng : ∀ x ∈ names, 0 ≤ x ∧ x < m
  all : ∀ x, 0 ≤ x → x < m → x ∈ names
theorem NmOk.top {n m : Int} {names : List Int} (h : NmOk n m names) (hm : 1 ≤ m) : m - 1 ∈ names := h.all _ (by omega) (by omega)
theorem NmOk.at {n m : Int} {names : List Int} (h : NmOk n m names) {p : Int} (h0 : 0 ≤ p) (h1 : p < n) : names[p.toNat]? = some (nmA names p) ∧ 0 ≤ nmA names p ∧ nmA names p < m := by
  have hl := h.len
  have e := List.getElem?_eq_getElem (l := names) (i := p.toNat) (by omega)
  have e2 : nmA names p = names[p.toNat]'(by omega) := by
    unfold nmA
    rw [e]
    rfl
  rw [e2]
  exact ⟨e, h.rng _ (List.getElem_mem _)⟩
end Pw

/-! ## PwFlow -/
namespace Pw
open PySem L2 Evl

/-! ### flows: what is brought along the ties (nothing of the program here) -/
def tieAt (ts : List Tie) (i : Nat) : Tie := ts.getD i (0, 0, 0)
def roomF (ts : List Tie) (am : List Int) (i : Nat) (p : Int) : Int := if p = (tieAt ts i).1 then (tieAt ts i).2.2 - am.getD i 0 else (tieAt ts i).2.2 + am.getD i 0
def Link (ts : List Tie) (i : Nat) (p q : Int) : Prop := ∃ t, ts[i]? = some t ∧ (t.1 = p ∧ t.2.1 = q ∨ t.1 = q ∧ t.2.1 = p)
def Res (ts : List Tie) (am : List Int) (p q : Int) : Prop := ∃ i, Link ts i p q ∧ 0 < roomF ts am i p
def nbN (ts : List Tie) (p : Int) : List (Nat × Int) := ts.zipIdx.flatMap fun x => (if x.1.1 = p then [(x.2, x.1.2.1)] else []) ++ (if x.1.2.1 = p then [(x.2, x.1.1)] else [])
theorem tieAt_of {ts : List Tie} {i : Nat} {t : Tie} (h : ts[i]? = some t) : tieAt ts i = t := by
  unfold tieAt
  rw [List.getD_eq_getElem?_getD, h]
  rfl
theorem nbN_mem {ts : List Tie} {p q : Int} {i : Nat} : (i, q) ∈ nbN ts p ↔ Link ts i p q := by
  unfold nbN Link
  rw [List.mem_flatMap]
  constructor
  · rintro ⟨⟨t, j⟩, hx, h⟩
    have ht := List.mk_mem_zipIdx_iff_getElem?.mp hx
    rcases List.mem_append.mp h with h | h
    · split at h
      · rename_i e
        have h := List.mem_singleton.mp h
        simp only [Prod.mk.injEq] at h
        obtain ⟨rfl, rfl⟩ := h
        exact ⟨t, ht, .inl ⟨e, rfl⟩⟩
      · cases h
    · split at h
      · rename_i e
        have h := List.mem_singleton.mp h
        simp only [Prod.mk.injEq] at h
        obtain ⟨rfl, rfl⟩ := h
        exact ⟨t, ht, .inr ⟨rfl, e⟩⟩
      · cases h
  · rintro ⟨t, ht, h⟩
    refine ⟨(t, i), List.mk_mem_zipIdx_iff_getElem?.mpr ht, List.mem_append.mpr ?_⟩
    rcases h with ⟨h1, h2⟩ | ⟨h1, h2⟩
    · refine .inl ?_
      rw [if_pos h1, h2]
      exact List.mem_singleton.mpr rfl
    · refine .inr ?_
      rw [if_pos h2, h1]
      exact List.mem_singleton.mpr rfl
theorem Link.flip {ts : List Tie} {i : Nat} {p q : Int} (h : Link ts i p q) : Link ts i q p := by
  obtain ⟨t, h1, h2⟩ := h
  exact ⟨t, h1, h2.symm⟩
theorem Link.rng {n : Int} {ts : List Tie} (hin : TiesIn n ts) {i : Nat} {p q : Int} (h : Link ts i p q) : (0 ≤ p ∧ p < n) ∧ (0 ≤ q ∧ q < n) ∧ p ≠ q ∧ i < ts.length := by
  obtain ⟨t, h1, h2⟩ := h
  have h3 := hin t (List.mem_of_getElem? h1)
  have h4 := (List.getElem?_eq_some_iff.mp h1).1
  omega

/-! #### where one comes from where -/
abbrev Came := List (Int × Option (Nat × Int))
def keysC (c : Came) : List Int := c.map (·.1)
def grow (ts : List Tie) (am : List Int) (here : Int) (c : Came) (e : Nat × Int) : Came := if (!decide (e.2 ∈ keysC c) && decide (roomF ts am e.1 here > 0)) = true then c ++ [(e.2, some (e.1, here))] else c
def bfs (ts : List Tie) (am : List Int) : Nat → Came → Nat → Came
  | 0, c, _ => c
  | k + 1, c, at' => match c[at']? with
    | none => c
    | some x => bfs ts am k ((nbN ts x.1).foldl (grow ts am x.1) c) (at' + 1)
structure CameOk (n : Int) (ts : List Tie) (am src : List Int) (c : Came) : Prop where
  nd : (keysC c).Nodup
  rng : ∀ k ∈ keysC c, 0 ≤ k ∧ k < n
  beg : ∀ s ∈ src, (s, none) ∈ c
  non : ∀ e ∈ c, e.2 = none → e.1 ∈ src
  ent : ∀ (j : Nat) q i h, c[j]? = some (q, some (i, h)) → ∃ j' o, j' < j ∧ c[j']? = some (h, o) ∧ Link ts i h q ∧ 0 < roomF ts am i h
theorem CameOk.few {n : Int} {ts : List Tie} {am src : List Int} {c : Came} (h : CameOk n ts am src c) : c.length ≤ n.toNat := by
  have := few_in (n := n.toNat) h.nd fun k hk => by
    have := h.rng k hk
    omega
  unfold keysC at this
  rw [List.length_map] at this
  exact this
theorem CameOk.begin {n : Int} {ts : List Tie} {am src : List Int} (hn : src.Nodup) (hr : ∀ s ∈ src, 0 ≤ s ∧ s < n) : CameOk n ts am src (src.map fun s => (s, none)) := by
  have e : keysC (src.map fun s => ((s, none) : Int × Option (Nat × Int))) = src := by
    unfold keysC
    rw [List.map_map]
    exact List.map_id src
  refine ⟨by rw [e]; exact hn, by rw [e]; exact hr, fun s hs => List.mem_map.mpr ⟨s, hs, rfl⟩, fun x hx _ => ?_, fun j q i h e => ?_⟩
  · obtain ⟨s, hs, rfl⟩ := List.mem_map.mp hx
    exact hs
  · rw [List.getElem?_map] at e
    obtain ⟨s, _, z⟩ := Option.map_eq_some_iff.mp e
    cases z
theorem CameOk.grow {n : Int} {ts : List Tie} {am src : List Int} {c : Came} (hin : TiesIn n ts) (h : CameOk n ts am src c) {at' : Nat} {here : Int} {o : Option (Nat × Int)} (ha : c[at']? = some (here, o)) {e : Nat × Int} (he : e ∈ nbN ts here) :
    CameOk n ts am src (Pw.grow ts am here c e) ∧ c <+: Pw.grow ts am here c e ∧ (0 < roomF ts am e.1 here → e.2 ∈ keysC (Pw.grow ts am here c e)) := by
  obtain ⟨i, q⟩ := e
  have hl := nbN_mem.mp he
  unfold Pw.grow
  by_cases c1 : q ∈ keysC c
  · rw [if_neg (by rw [decide_eq_true c1]; simp)]
    exact ⟨h, List.prefix_refl _, fun _ => c1⟩
  · by_cases c2 : roomF ts am i here > 0
    · rw [if_pos (by rw [decide_eq_false c1, decide_eq_true c2]; rfl)]
      have hk : keysC (c ++ [(q, some (i, here))]) = keysC c ++ [q] := by unfold keysC; rw [List.map_append]; rfl
      refine ⟨⟨?_, fun k hk' => ?_, fun s hs => List.mem_append_left _ (h.beg s hs), fun x hx hn => ?_, fun j q' i' h' e => ?_⟩, List.prefix_append _ _, fun _ => by rw [hk]; exact List.mem_append_right _ (List.mem_singleton.mpr rfl)⟩
      · rw [hk, List.nodup_append]
        exact ⟨h.nd, by simp, fun a ha b hb z => c1 (by rw [← List.mem_singleton.mp hb, ← z]; exact ha)⟩
      · rw [hk] at hk'
        rcases List.mem_append.mp hk' with hk' | hk'
        · exact h.rng k hk'
        · rw [List.mem_singleton.mp hk']
          exact (hl.rng hin).2.1
      · rcases List.mem_append.mp hx with hx | hx
        · exact h.non x hx hn
        · rw [List.mem_singleton.mp hx] at hn
          cases hn
      · by_cases hj : j < c.length
        · rw [List.getElem?_append_left hj] at e
          obtain ⟨j', o', h1, h2, h3⟩ := h.ent j q' i' h' e
          exact ⟨j', o', h1, by rw [List.getElem?_append_left (by omega)]; exact h2, h3⟩
        · have hjl := (List.getElem?_eq_some_iff.mp e).1
          rw [List.length_append] at hjl
          have hjl : j < c.length + 1 := hjl
          have ej : j = c.length := by omega
          subst ej
          rw [List.getElem?_append_right (Nat.le_refl _), Nat.sub_self] at e
          cases e
          have hal := (List.getElem?_eq_some_iff.mp ha).1
          exact ⟨at', o, hal, by rw [List.getElem?_append_left hal]; exact ha, hl, c2⟩
    · rw [if_neg (by rw [decide_eq_false c2]; simp)]
      exact ⟨h, List.prefix_refl _, fun z => absurd z c2⟩
theorem prefix_at {α : Type} {c d : List α} (h : c <+: d) {i : Nat} {x : α} (hx : c[i]? = some x) : d[i]? = some x := by
  obtain ⟨r, rfl⟩ := h
  rw [List.getElem?_append_left (List.getElem?_eq_some_iff.mp hx).1]
  exact hx
theorem prefix_keys {c d : Came} (h : c <+: d) {k : Int} (hk : k ∈ keysC c) : k ∈ keysC d := by
  obtain ⟨r, rfl⟩ := h
  unfold keysC
  rw [List.map_append]
  exact List.mem_append_left _ hk
theorem grows {n : Int} {ts : List Tie} {am src : List Int} (hin : TiesIn n ts) {at' : Nat} {here : Int} {o : Option (Nat × Int)} : ∀ {l : List (Nat × Int)} {c : Came}, (∀ e ∈ l, e ∈ nbN ts here) → CameOk n ts am src c → c[at']? = some (here, o) →
    CameOk n ts am src (l.foldl (grow ts am here) c) ∧ c <+: l.foldl (grow ts am here) c ∧ ∀ e ∈ l, 0 < roomF ts am e.1 here → e.2 ∈ keysC (l.foldl (grow ts am here) c)
  | [], c, _, h, _ => ⟨h, List.prefix_refl _, fun e he => by cases he⟩
  | x :: l, c, hl, h, ha => by
    obtain ⟨g1, g2, g3⟩ := h.grow hin ha (hl x List.mem_cons_self)
    obtain ⟨k1, k2, k3⟩ := grows hin (l := l) (c := grow ts am here c x) (fun e he => hl e (List.mem_cons_of_mem _ he)) g1 (prefix_at g2 ha)
    refine ⟨k1, g2.trans k2, fun e he hr => ?_⟩
    rcases List.mem_cons.mp he with rfl | he
    · exact prefix_keys k2 (g3 hr)
    · exact k3 e he hr
/-- all that can be reached from the first places is there -/
def ClosedTo (ts : List Tie) (am : List Int) (c : Came) (m : Nat) : Prop := ∀ (j : Nat) p o, j < m → c[j]? = some (p, o) → ∀ q, Res ts am p q → q ∈ keysC c
theorem bfs_spec {n : Int} {ts : List Tie} {am src : List Int} (hin : TiesIn n ts) : ∀ (k : Nat) (c : Came) (at' : Nat), CameOk n ts am src c → at' ≤ c.length → ClosedTo ts am c at' → n.toNat ≤ at' + k →
    CameOk n ts am src (bfs ts am k c at') ∧ ClosedTo ts am (bfs ts am k c at') (bfs ts am k c at').length
  | 0, c, at', h, hl, hc, hk => by
    have := h.few
    have e : at' = c.length := by omega
    refine ⟨h, ?_⟩
    show ClosedTo ts am c c.length
    rw [← e]
    exact hc
  | k + 1, c, at', h, hl, hc, hk => by
    unfold bfs
    cases e : c[at']? with
    | none =>
      have hle : c.length ≤ at' := List.getElem?_eq_none_iff.mp e
      have e2 : at' = c.length := by omega
      refine ⟨h, ?_⟩
      show ClosedTo ts am c c.length
      rw [← e2]
      exact hc
    | some x =>
      obtain ⟨here, o⟩ := x
      obtain ⟨g1, g2, g3⟩ := grows (am := am) (src := src) hin (l := nbN ts here) (fun e he => he) h e
      have hal := (List.getElem?_eq_some_iff.mp e).1
      have g4 := g2.length_le
      refine bfs_spec hin k ((nbN ts here).foldl (grow ts am here) c) (at' + 1) g1 (by omega) (fun j p o' hj hp q hr => ?_) (by omega)
      by_cases hj' : j < at'
      · have hp' : c[j]? = some (p, o') := by
          obtain ⟨r, hr'⟩ := g2
          rw [← hr', List.getElem?_append_left (by omega)] at hp
          exact hp
        exact prefix_keys g2 (hc j p o' hj' hp' q hr)
      · have ej : j = at' := by omega
        subst ej
        rw [prefix_at g2 e] at hp
        cases hp
        obtain ⟨i, hl', hr'⟩ := hr
        exact g3 (i, q) (nbN_mem.mpr hl') hr'
def bfs0 (n : Int) (ts : List Tie) (src am : List Int) : Came := bfs ts am n.toNat (src.map fun s => (s, none)) 0
theorem bfs0_ok {n : Int} {ts : List Tie} {src am : List Int} (hin : TiesIn n ts) (hn : src.Nodup) (hr : ∀ s ∈ src, 0 ≤ s ∧ s < n) : CameOk n ts am src (bfs0 n ts src am) ∧ ∀ p ∈ keysC (bfs0 n ts src am), ∀ q, Res ts am p q → q ∈ keysC (bfs0 n ts src am) := by
  obtain ⟨h1, h2⟩ := bfs_spec (am := am) hin n.toNat _ 0 (CameOk.begin hn hr) (Nat.zero_le _) (fun j p o hj => by omega) (by omega)
  refine ⟨h1, fun p hp q hq => ?_⟩
  obtain ⟨x, hx, rfl⟩ := List.mem_map.mp hp
  obtain ⟨j, hj⟩ := List.getElem?_of_mem hx
  exact h2 j x.1 x.2 (List.getElem?_eq_some_iff.mp hj).1 hj q hq

/-! #### the way to a place -/
def lookC (c : Came) (p : Int) : Option (Nat × Int) := ((c.find? fun e => decide (e.1 = p)).map (·.2)).getD none
theorem lookC_mem {c : Came} (hn : (keysC c).Nodup) {p : Int} {o : Option (Nat × Int)} (h : (p, o) ∈ c) : lookC c p = o := by
  unfold lookC
  induction c with
  | nil => cases h
  | cons x r ih =>
    unfold keysC at hn
    rw [List.map_cons, List.nodup_cons] at hn
    rcases List.mem_cons.mp h with rfl | h
    · rw [List.find?_cons_of_pos (by simp)]
      rfl
    · have hne : ¬ x.1 = p := fun z => hn.1 (by rw [z]; exact List.mem_map.mpr ⟨(p, o), h, rfl⟩)
      rw [List.find?_cons_of_neg (by simpa using hne)]
      exact ih hn.2 h
def pathF (c : Came) : Nat → Option (Nat × Int) → List (Nat × Int)
  | 0, _ => []
  | _ + 1, none => []
  | k + 1, some s => s :: pathF c k (lookC c s.2)
theorem pathF_fuel {n : Int} {ts : List Tie} {am src : List Int} {c : Came} (h : CameOk n ts am src c) : ∀ (j : Nat) e, c[j]? = some e → ∀ m, j + 1 ≤ m → pathF c m e.2 = pathF c (j + 1) e.2 := by
  intro j
  induction j using Nat.strongRecOn with
  | ind j ih =>
    rintro ⟨q, o⟩ he m hm
    obtain ⟨m', rfl⟩ : ∃ m', m = m' + 1 := ⟨m - 1, by omega⟩
    cases o with
    | none => rfl
    | some s =>
      obtain ⟨i, hp⟩ := s
      obtain ⟨j', o', h1, h2, _⟩ := h.ent j q i hp he
      have hl : lookC c hp = o' := lookC_mem h.nd (List.mem_of_getElem? h2)
      show (i, hp) :: pathF c m' (lookC c hp) = (i, hp) :: pathF c j (lookC c hp)
      rw [hl]
      have a1 := ih j' h1 (hp, o') h2 m' (by omega)
      have a2 := ih j' h1 (hp, o') h2 j (by omega)
      rw [show (hp, o').2 = o' from rfl] at a1 a2
      rw [a1, a2]
inductive PathTo (ts : List Tie) (am src : List Int) : Int → List (Nat × Int) → Prop
  | src {q : Int} : q ∈ src → PathTo ts am src q []
  | step {q h : Int} {i : Nat} {r : List (Nat × Int)} : Link ts i h q → 0 < roomF ts am i h → PathTo ts am src h r → PathTo ts am src q ((i, h) :: r)
theorem path_ok {n : Int} {ts : List Tie} {am src : List Int} {c : Came} (hin : TiesIn n ts) (h : CameOk n ts am src c) : ∀ (j : Nat) e, c[j]? = some e → PathTo ts am src e.1 (pathF c (j + 1) e.2) ∧ ((pathF c (j + 1) e.2).map (·.1)).Nodup ∧
    ∀ s ∈ pathF c (j + 1) e.2, ∃ (j1 j2 : Nat) (q : Int) (o1 o2 : Option (Nat × Int)), j1 < j2 ∧ j2 ≤ j ∧ c[j1]? = some (s.2, o1) ∧ c[j2]? = some (q, o2) ∧ Link ts s.1 s.2 q := by
  intro j
  induction j using Nat.strongRecOn with
  | ind j ih =>
    rintro ⟨q, o⟩ he
    cases o with
    | none => exact ⟨.src (h.non _ (List.mem_of_getElem? he) rfl), List.nodup_nil, fun s hs => by cases hs⟩
    | some s =>
      obtain ⟨i, hp⟩ := s
      obtain ⟨j', o', h1, h2, h3, h4⟩ := h.ent j q i hp he
      have hl : lookC c hp = o' := lookC_mem h.nd (List.mem_of_getElem? h2)
      obtain ⟨k1, k2, k3⟩ := ih j' h1 (hp, o') h2
      have e : pathF c (j + 1) (some (i, hp)) = (i, hp) :: pathF c (j' + 1) o' := by
        show (i, hp) :: pathF c j (lookC c hp) = _
        rw [hl]
        have a1 := pathF_fuel h j' (hp, o') h2 j (by omega)
        rw [show (hp, o').2 = o' from rfl] at a1
        rw [a1]
      show PathTo ts am src q (pathF c (j + 1) (some (i, hp))) ∧ ((pathF c (j + 1) (some (i, hp))).map (·.1)).Nodup ∧ ∀ s ∈ pathF c (j + 1) (some (i, hp)), _
      rw [e]
      refine ⟨.step h3 h4 k1, ?_, fun s hs => ?_⟩
      · rw [List.map_cons, List.nodup_cons]
        refine ⟨fun hm => ?_, k2⟩
        obtain ⟨s, hs, es⟩ := List.mem_map.mp hm
        obtain ⟨j1, j2, q2, o1, o2, l1, l2, c1, c2, lk⟩ := k3 s hs
        rw [es] at lk
        -- the same tie, twice
        obtain ⟨t, ht, g⟩ := h3
        obtain ⟨t', ht', g'⟩ := lk
        rw [ht] at ht'
        cases ht'
        have hr := hin t (List.mem_of_getElem? ht)
        have hd : s.2 = q ∨ q2 = q := by omega
        have inj : ∀ {a b : Nat} {x : Int} {u v : Option (Nat × Int)}, c[a]? = some (x, u) → c[b]? = some (x, v) → a = b := fun {a b x u v} ha hb => by
          have ha' : (keysC c)[a]? = some x := by unfold keysC; rw [List.getElem?_map, ha]; rfl
          have hb' : (keysC c)[b]? = some x := by unfold keysC; rw [List.getElem?_map, hb]; rfl
          exact nd_at h.nd ha' hb'
        rcases hd with hd | hd
        · rw [hd] at c1
          have := inj c1 he
          omega
        · rw [hd] at c2
          have := inj c2 he
          omega
      · rcases List.mem_cons.mp hs with rfl | hs
        · exact ⟨j', j, q, o', some (i, hp), h1, Nat.le_refl _, h2, he, h3⟩
        · obtain ⟨j1, j2, q2, o1, o2, l1, l2, r⟩ := k3 s hs
          exact ⟨j1, j2, q2, o1, o2, l1, by omega, r⟩
end Pw

/-! ## PwCut -/
namespace Pw
open PySem L2 Evl

/-! ### what goes out of places; more along a way -/
def dotF : List Tie → List Int → (Int → Int) → Int
  | t :: ts, x :: xs, g => x * (g t.1 - g t.2.1) + dotF ts xs g
  | _, _, _ => 0
def addF (ts : List Tie) (am : List Int) (i : Nat) (h m : Int) : List Int := am.set i (am.getD i 0 + (if h = (tieAt ts i).1 then m else -m))
def bringF (ts : List Tie) (m : Int) (am : List Int) (P : List (Nat × Int)) : List Int := P.foldl (fun a s => addF ts a s.1 s.2 m) am
structure Feas (ts : List Tie) (am : List Int) : Prop where
  len : am.length = ts.length
  low : ∀ (i : Nat) t x, ts[i]? = some t → am[i]? = some x → -t.2.2 ≤ x ∧ x ≤ t.2.2
theorem dotF_add : ∀ {ts : List Tie} {am : List Int} {i : Nat} {t : Tie} {x y : Int} {g : Int → Int}, am.length = ts.length → ts[i]? = some t → am[i]? = some x → dotF ts (am.set i (x + y)) g = dotF ts am g + y * (g t.1 - g t.2.1)
  | [], _, i, t, x, y, g, _, h, _ => by simp at h
  | u :: ts, [], i, t, x, y, g, hl, _, _ => by simp at hl
  | u :: ts, z :: am, 0, t, x, y, g, hl, h1, h2 => by
    simp only [List.getElem?_cons_zero, Option.some.injEq] at h1 h2
    subst h1 h2
    show (z + y) * (g u.1 - g u.2.1) + dotF ts am g = z * (g u.1 - g u.2.1) + dotF ts am g + y * (g u.1 - g u.2.1)
    rw [Int.add_mul]
    omega
  | u :: ts, z :: am, i + 1, t, x, y, g, hl, h1, h2 => by
    have ih := dotF_add (ts := ts) (am := am) (i := i) (t := t) (x := x) (y := y) (g := g) (by simpa using hl) (by simpa using h1) (by simpa using h2)
    show z * (g u.1 - g u.2.1) + dotF ts (am.set i (x + y)) g = z * (g u.1 - g u.2.1) + dotF ts am g + y * (g t.1 - g t.2.1)
    rw [ih]
    omega
theorem link_at {n : Int} {ts : List Tie} (hin : TiesIn n ts) {am : List Int} (hl : am.length = ts.length) {i : Nat} {h q : Int} (lk : Link ts i h q) :
    ∃ t x, ts[i]? = some t ∧ am[i]? = some x ∧ tieAt ts i = t ∧ am.getD i 0 = x ∧ (h = t.1 ∧ q = t.2.1 ∨ h ≠ t.1 ∧ h = t.2.1 ∧ q = t.1) := by
  obtain ⟨t, ht, c⟩ := lk
  have hi := (List.getElem?_eq_some_iff.mp ht).1
  have hr := hin t (List.mem_of_getElem? ht)
  refine ⟨t, am[i]'(by omega), ht, List.getElem?_eq_getElem (by omega), tieAt_of ht, ?_, by omega⟩
  rw [List.getD_eq_getElem?_getD, List.getElem?_eq_getElem (by omega)]
  rfl
theorem addF_len {ts : List Tie} {am : List Int} {i : Nat} {h m : Int} : (addF ts am i h m).length = am.length := List.length_set
theorem addF_dot {n : Int} {ts : List Tie} (hin : TiesIn n ts) {am : List Int} (hl : am.length = ts.length) {i : Nat} {h q m : Int} (lk : Link ts i h q) (g : Int → Int) : dotF ts (addF ts am i h m) g = dotF ts am g + m * (g h - g q) := by
  obtain ⟨t, x, h1, h2, h3, h4, c⟩ := link_at hin hl lk
  unfold addF
  rw [h3, h4]
  rcases c with ⟨rfl, rfl⟩ | ⟨c1, rfl, rfl⟩
  · rw [if_pos rfl]
    exact dotF_add hl h1 h2
  · rw [if_neg c1, dotF_add hl h1 h2, Int.neg_mul, ← Int.mul_neg, Int.neg_sub]
theorem addF_other {ts : List Tie} {am : List Int} {i j : Nat} {h m p : Int} (hij : i ≠ j) : roomF ts (addF ts am i h m) j p = roomF ts am j p := by
  unfold roomF addF
  rw [List.getD_eq_getElem?_getD, List.getElem?_set_ne hij, ← List.getD_eq_getElem?_getD]
theorem addF_feas {n : Int} {ts : List Tie} (hin : TiesIn n ts) {am : List Int} (F : Feas ts am) {i : Nat} {h q m : Int} (lk : Link ts i h q) (h0 : 0 ≤ m) (hm : m ≤ roomF ts am i h) : Feas ts (addF ts am i h m) := by
  obtain ⟨t, x, h1, h2, h3, h4, c⟩ := link_at hin F.len lk
  have hb := F.low i t x h1 h2
  refine ⟨by rw [addF_len, F.len], fun j t' x' g1 g2 => ?_⟩
  by_cases hij : i = j
  · subst hij
    rw [h1] at g1
    cases g1
    unfold addF at g2
    rw [h3, h4, List.getElem?_set_self (List.getElem?_eq_some_iff.mp h2).1] at g2
    have g2 := Option.some.inj g2
    unfold roomF at hm
    rw [h3, h4] at hm
    rcases c with ⟨c1, _⟩ | ⟨c1, _⟩
    · rw [if_pos c1] at g2 hm
      omega
    · rw [if_neg c1] at g2 hm
      omega
  · unfold addF at g2
    rw [List.getElem?_set_ne hij] at g2
    exact F.low j t' x' g1 g2
theorem bringF_feas {n : Int} {ts : List Tie} (hin : TiesIn n ts) {m : Int} (h0 : 0 ≤ m) : ∀ (P : List (Nat × Int)) (am : List Int), Feas ts am → (P.map (·.1)).Nodup → (∀ s ∈ P, m ≤ roomF ts am s.1 s.2 ∧ ∃ q, Link ts s.1 s.2 q) → Feas ts (bringF ts m am P)
  | [], am, F, _, _ => F
  | s :: P, am, F, hn, hs => by
    rw [List.map_cons, List.nodup_cons] at hn
    obtain ⟨h1, q, h2⟩ := hs s List.mem_cons_self
    refine bringF_feas hin h0 P (addF ts am s.1 s.2 m) (addF_feas hin F h2 h0 h1) hn.2 fun s' hs' => ?_
    have := hs s' (List.mem_cons_of_mem _ hs')
    refine ⟨?_, this.2⟩
    rw [addF_other fun e => hn.1 (by rw [e]; exact List.mem_map.mpr ⟨s', hs', rfl⟩)]
    exact this.1
theorem bringF_len {ts : List Tie} {m : Int} : ∀ (P : List (Nat × Int)) (am : List Int), (bringF ts m am P).length = am.length
  | [], am => rfl
  | s :: P, am => (bringF_len P (addF ts am s.1 s.2 m)).trans addF_len
theorem PathTo.links {ts : List Tie} {am src : List Int} {q : Int} {P : List (Nat × Int)} (h : PathTo ts am src q P) : ∀ s ∈ P, 0 < roomF ts am s.1 s.2 ∧ ∃ q, Link ts s.1 s.2 q := by
  induction h with
  | src _ => exact fun s hs => by cases hs
  | step l r p ih =>
    intro s hs
    rcases List.mem_cons.mp hs with rfl | hs
    · exact ⟨r, _, l⟩
    · exact ih s hs
theorem bringF_dot {n : Int} {ts : List Tie} (hin : TiesIn n ts) {m : Int} {am src : List Int} {q : Int} {P : List (Nat × Int)} (h : PathTo ts am src q P) : ∀ a : List Int, a.length = ts.length → ∃ s ∈ src, ∀ g : Int → Int, dotF ts (bringF ts m a P) g = dotF ts a g + m * (g s - g q) := by
  induction h with
  | @src q hq => exact fun a _ => ⟨q, hq, fun g => by
      show dotF ts a g = _
      rw [Int.sub_self, Int.mul_zero, Int.add_zero]⟩
  | @step q h i r lk _ _ ih =>
    intro a hl
    obtain ⟨s, hs, e⟩ := ih (addF ts a i h m) (by rw [addF_len, hl])
    refine ⟨s, hs, fun g => ?_⟩
    show dotF ts (bringF ts m (addF ts a i h m) r) g = _
    rw [e g, addF_dot hin hl lk g, Int.add_assoc, ← Int.mul_add]
    congr 2
    omega

/-! ### sums over places -/
def one1 (p : Int) : Int → Int := fun x => if x = p then 1 else 0
def indL (X : List Int) : Int → Int := fun x => if x ∈ X then 1 else 0
theorem dotF_zero : ∀ (ts : List Tie) (am : List Int), dotF ts am (fun _ => 0) = 0
  | [], _ => by unfold dotF; rfl
  | _ :: _, [] => by unfold dotF; rfl
  | t :: ts, x :: xs => by
    show x * (0 - 0) + dotF ts xs (fun _ => 0) = 0
    rw [dotF_zero ts xs, Int.sub_self, Int.mul_zero, Int.add_zero]
theorem dotF_plus (g k : Int → Int) : ∀ (ts : List Tie) (am : List Int), dotF ts am (fun x => g x + k x) = dotF ts am g + dotF ts am k
  | [], _ => by unfold dotF; rfl
  | _ :: _, [] => by unfold dotF; rfl
  | t :: ts, x :: xs => by
    show x * ((g t.1 + k t.1) - (g t.2.1 + k t.2.1)) + dotF ts xs (fun x => g x + k x) = x * (g t.1 - g t.2.1) + dotF ts xs g + (x * (k t.1 - k t.2.1) + dotF ts xs k)
    rw [dotF_plus g k ts xs, show (g t.1 + k t.1) - (g t.2.1 + k t.2.1) = (g t.1 - g t.2.1) + (k t.1 - k t.2.1) by omega, Int.mul_add]
    omega
def outF (ts : List Tie) (am : List Int) (p : Int) : Int := dotF ts am (one1 p)
theorem out_sum (ts : List Tie) (am : List Int) : ∀ X : List Int, X.Nodup → (X.map (outF ts am)).sum = dotF ts am (indL X)
  | [], _ => by
    have e : indL [] = fun _ => 0 := funext fun x => if_neg (fun h => by cases h)
    rw [e, dotF_zero]
    rfl
  | a :: X, h => by
    rw [List.nodup_cons] at h
    have e : indL (a :: X) = fun x => one1 a x + indL X x := funext fun x => by
      show (if x ∈ a :: X then (1 : Int) else 0) = (if x = a then (1 : Int) else 0) + (if x ∈ X then (1 : Int) else 0)
      by_cases h1 : x = a
      · rw [if_pos (by rw [h1]; exact List.mem_cons_self), if_pos h1, if_neg (by rw [h1]; exact h.1)]
        rfl
      · by_cases h2 : x ∈ X
        · rw [if_pos (List.mem_cons_of_mem _ h2), if_neg h1, if_pos h2]
          rfl
        · rw [if_neg (fun z => (List.mem_cons.mp z).elim h1 h2), if_neg h1, if_neg h2]
          rfl
    rw [e, dotF_plus, List.map_cons, List.sum_cons, out_sum ts am X h.2]
    rfl
/-- nothing stays on the way -/
def Kept (ts : List Tie) (am src snk : List Int) : Prop := ∀ p, p ∉ src → p ∉ snk → outF ts am p = 0
theorem sum_drop (f : Int → Int) (c : Int → Bool) : ∀ X : List Int, (∀ x ∈ X, c x = false → f x = 0) → (X.map f).sum = ((X.filter c).map f).sum
  | [], _ => rfl
  | a :: X, h => by
    have ih := sum_drop f c X fun x hx => h x (List.mem_cons_of_mem _ hx)
    rw [List.map_cons, List.sum_cons, ih, List.filter_cons]
    cases e : c a with
    | true => rw [if_pos rfl, List.map_cons, List.sum_cons]
    | false =>
      rw [if_neg (by decide), h a List.mem_cons_self e]
      omega
theorem sum_perm {l m : List Int} (h : l.Perm m) : l.sum = m.sum := by
  induction h with
  | nil => rfl
  | cons x _ ih => rw [List.sum_cons, List.sum_cons, ih]
  | swap x y l =>
    rw [List.sum_cons, List.sum_cons, List.sum_cons, List.sum_cons]
    omega
  | trans _ _ a b => exact a.trans b
/-- what goes out of a side -/
theorem side_out {ts : List Tie} {am src snk X : List Int} (hk : Kept ts am src snk) (hs : src.Nodup) (hX : X.Nodup) (h1 : ∀ s ∈ src, s ∈ X) (h2 : ∀ s ∈ snk, s ∉ X) : dotF ts am (indL X) = dotF ts am (indL src) := by
  rw [← out_sum ts am X hX, ← out_sum ts am src hs, sum_drop (outF ts am) (fun x => decide (x ∈ src)) X fun x hx hc => hk x (of_decide_eq_false hc) fun z => h2 x z hx]
  have p : (X.filter fun x => decide (x ∈ src)).Perm src := (List.perm_ext_iff_of_nodup (hX.filter _) hs).mpr fun a => by
    rw [List.mem_filter, decide_eq_true_iff]
    exact ⟨fun h => h.2, fun h => ⟨h1 a h, h⟩⟩
  exact sum_perm (p.map _)

/-! ### sides and what they weigh -/
def cutW (ts : List Tie) (X : List Int) : Int := ((ts.filter fun t => decide (t.1 ∈ X) != decide (t.2.1 ∈ X)).map (·.2.2)).sum
def cutT (X : List Int) (t : Tie) : Int := if (decide (t.1 ∈ X) != decide (t.2.1 ∈ X)) = true then t.2.2 else 0
theorem cutW_eq (X : List Int) : ∀ ts : List Tie, cutW ts X = (ts.map (cutT X)).sum
  | [] => rfl
  | t :: ts => by
    have ih := cutW_eq X ts
    unfold cutW at ih ⊢
    rw [List.filter_cons, List.map_cons, List.sum_cons, ← ih]
    unfold cutT
    split
    · rw [List.map_cons, List.sum_cons]
    · rw [Int.zero_add]
theorem term_le {t : Tie} {x : Int} {X : List Int} (h : -t.2.2 ≤ x ∧ x ≤ t.2.2) : x * (indL X t.1 - indL X t.2.1) ≤ cutT X t ∧ (x * (indL X t.1 - indL X t.2.1) = cutT X t → (t.1 ∈ X → t.2.1 ∉ X → x = t.2.2) ∧ (t.1 ∉ X → t.2.1 ∈ X → x = -t.2.2)) := by
  unfold indL cutT
  by_cases h1 : t.1 ∈ X <;> by_cases h2 : t.2.1 ∈ X <;> simp [h1, h2] <;> omega
theorem dot_le {X : List Int} : ∀ {ts : List Tie} {am : List Int}, Feas ts am → dotF ts am (indL X) ≤ cutW ts X ∧ (dotF ts am (indL X) = cutW ts X → ∀ (i : Nat) t x, ts[i]? = some t → am[i]? = some x → (t.1 ∈ X → t.2.1 ∉ X → x = t.2.2) ∧ (t.1 ∉ X → t.2.1 ∈ X → x = -t.2.2))
  | [], am, F => ⟨by unfold dotF; exact Int.le_refl _, fun _ i t x h => by simp at h⟩
  | t :: ts, [], F => by
    have := F.len
    simp at this
  | t :: ts, x :: am, F => by
    obtain ⟨i1, i2⟩ := dot_le (X := X) (ts := ts) (am := am) ⟨by have := F.len; simpa using this, fun i t' x' g1 g2 => F.low (i + 1) t' x' (by simpa using g1) (by simpa using g2)⟩
    obtain ⟨t1, t2⟩ := term_le (X := X) (F.low 0 t x rfl rfl)
    rw [cutW_eq] at i1 i2 ⊢
    rw [List.map_cons, List.sum_cons]
    have e : dotF (t :: ts) (x :: am) (indL X) = x * (indL X t.1 - indL X t.2.1) + dotF ts am (indL X) := rfl
    rw [e]
    refine ⟨by omega, fun heq i t' x' g1 g2 => ?_⟩
    cases i with
    | zero =>
      simp only [List.getElem?_cons_zero, Option.some.injEq] at g1 g2
      subst g1 g2
      exact t2 (by omega)
    | succ i => exact i2 (by omega) i t' x' (by simpa using g1) (by simpa using g2)
theorem dot_eq {X : List Int} : ∀ {ts : List Tie} {am : List Int}, am.length = ts.length → (∀ (i : Nat) t x, ts[i]? = some t → am[i]? = some x → (t.1 ∈ X → t.2.1 ∉ X → x = t.2.2) ∧ (t.1 ∉ X → t.2.1 ∈ X → x = -t.2.2)) → dotF ts am (indL X) = cutW ts X
  | [], am, _, _ => by unfold dotF; rfl
  | t :: ts, [], h, _ => by simp at h
  | t :: ts, x :: am, hl, h => by
    have ih := dot_eq (X := X) (ts := ts) (am := am) (by simpa using hl) fun i t' x' g1 g2 => h (i + 1) t' x' (by simpa using g1) (by simpa using g2)
    have h0 := h 0 t x rfl rfl
    rw [cutW_eq] at ih ⊢
    rw [List.map_cons, List.sum_cons, ← ih]
    show x * (indL X t.1 - indL X t.2.1) + dotF ts am (indL X) = cutT X t + dotF ts am (indL X)
    congr 1
    unfold indL cutT
    by_cases h1 : t.1 ∈ X <;> by_cases h2 : t.2.1 ∈ X <;> simp [h1, h2] <;> simp [h1, h2] at h0 <;> omega
/-- a side: all sources, no sinks -/
structure Side (src snk X : List Int) : Prop where
  nd : X.Nodup
  all : ∀ s ∈ src, s ∈ X
  no : ∀ s ∈ snk, s ∉ X
def ClosedS (ts : List Tie) (am X : List Int) : Prop := ∀ p ∈ X, ∀ q, Res ts am p q → q ∈ X
theorem closed_sat {n : Int} {ts : List Tie} (hin : TiesIn n ts) {am X : List Int} (F : Feas ts am) (h : ClosedS ts am X) : ∀ (i : Nat) t x, ts[i]? = some t → am[i]? = some x → (t.1 ∈ X → t.2.1 ∉ X → x = t.2.2) ∧ (t.1 ∉ X → t.2.1 ∈ X → x = -t.2.2) := fun i t x g1 g2 => by
  have hb := F.low i t x g1 g2
  have hr := hin t (List.mem_of_getElem? g1)
  have ga : am.getD i 0 = x := by rw [List.getD_eq_getElem?_getD, g2]; rfl
  have r1 : roomF ts am i t.1 = t.2.2 - x := by unfold roomF; rw [tieAt_of g1, if_pos rfl, ga]
  have r2 : roomF ts am i t.2.1 = t.2.2 + x := by unfold roomF; rw [tieAt_of g1, if_neg (by omega), ga]
  refine ⟨fun h1 h2 => ?_, fun h1 h2 => ?_⟩
  · by_cases z : 0 < roomF ts am i t.1
    · exact absurd (h t.1 h1 t.2.1 ⟨i, ⟨t, g1, .inl ⟨rfl, rfl⟩⟩, z⟩) h2
    · omega
  · by_cases z : 0 < roomF ts am i t.2.1
    · exact absurd (h t.2.1 h2 t.1 ⟨i, ⟨t, g1, .inr ⟨rfl, rfl⟩⟩, z⟩) h1
    · omega
theorem sat_closed {n : Int} {ts : List Tie} (hin : TiesIn n ts) {am X : List Int} (hl : am.length = ts.length) (h : ∀ (i : Nat) t x, ts[i]? = some t → am[i]? = some x → (t.1 ∈ X → t.2.1 ∉ X → x = t.2.2) ∧ (t.1 ∉ X → t.2.1 ∈ X → x = -t.2.2)) : ClosedS ts am X := fun p hp q ⟨i, lk, hr⟩ => by
  obtain ⟨t, x, h1, h2, h3, h4, c⟩ := link_at hin hl lk
  have hs := h i t x h1 h2
  unfold roomF at hr
  rw [h3, h4] at hr
  refine Classical.byContradiction fun hq => ?_
  rcases c with ⟨c1, c2⟩ | ⟨c0, c1, c2⟩
  · rw [if_pos c1] at hr
    have := hs.1 (by rw [← c1]; exact hp) (by rw [← c2]; exact hq)
    omega
  · rw [if_neg c0] at hr
    have := hs.2 (by rw [← c2]; exact hq) (by rw [← c1]; exact hp)
    omega
/-- the lightest sides are just those from which nothing more could be brought -/
theorem light_iff {n : Int} {ts : List Tie} (hin : TiesIn n ts) {am src snk X : List Int} (F : Feas ts am) (hk : Kept ts am src snk) (hs : src.Nodup) (hX : Side src snk X) :
    dotF ts am (indL src) ≤ cutW ts X ∧ (cutW ts X = dotF ts am (indL src) ↔ ClosedS ts am X) := by
  have e := side_out hk hs hX.nd hX.all hX.no
  obtain ⟨h1, h2⟩ := dot_le (X := X) F
  refine ⟨by omega, fun h => sat_closed hin F.len (h2 (by omega)), fun h => ?_⟩
  have := dot_eq F.len (closed_sat hin F h)
  omega
end Pw

/-! ## PwFill -/
namespace Pw
open PySem L2 Evl

/-! ### filling: more and more along ways, until there is none -/
def leastL : List Int → Int
  | [] => 0
  | a :: r => r.foldl (fun m y => if y < m then y else m) a
theorem least_fold : ∀ (r : List Int) (a : Int), (r.foldl (fun m y => if y < m then y else m) a ∈ a :: r) ∧ ∀ y ∈ a :: r, r.foldl (fun m y => if y < m then y else m) a ≤ y
  | [], a => ⟨List.mem_cons_self, fun y hy => by rw [List.mem_singleton.mp hy]; exact Int.le_refl a⟩
  | b :: r, a => by
    obtain ⟨h1, h2⟩ := least_fold r (if b < a then b else a)
    show r.foldl (fun m y => if y < m then y else m) (if b < a then b else a) ∈ a :: b :: r ∧ ∀ y ∈ a :: b :: r, r.foldl (fun m y => if y < m then y else m) (if b < a then b else a) ≤ y
    have h0 := h2 (if b < a then b else a) List.mem_cons_self
    refine ⟨?_, fun y hy => ?_⟩
    · rcases List.mem_cons.mp h1 with e | e
      · rw [e]
        split
        · exact List.mem_cons_of_mem _ List.mem_cons_self
        · exact List.mem_cons_self
      · exact List.mem_cons_of_mem _ (List.mem_cons_of_mem _ e)
    · rcases List.mem_cons.mp hy with rfl | hy
      · split at h0 <;> split <;> omega
      · rcases List.mem_cons.mp hy with rfl | hy
        · split at h0 <;> split <;> omega
        · exact h2 y (List.mem_cons_of_mem _ hy)
theorem leastL_ok {l : List Int} (h : l ≠ []) : leastL l ∈ l ∧ ∀ y ∈ l, leastL l ≤ y := by
  cases l with
  | nil => exact absurd rfl h
  | cons a r => exact least_fold r a
def seenIn (snk : List Int) (c : Came) : List Int := (keysC c).filter fun p => decide (p ∈ snk)
def wayTo (c : Came) (q : Int) : List (Nat × Int) := pathF c c.length (lookC c q)
def roomsF (ts : List Tie) (am : List Int) (P : List (Nat × Int)) : List Int := P.map fun s => roomF ts am s.1 s.2
def moreF (ts : List Tie) (am : List Int) (c : Came) (q : Int) : List Int := bringF ts (leastL (roomsF ts am (wayTo c q))) am (wayTo c q)
inductive Fill (n : Int) (ts : List Tie) (src snk : List Int) : List Int → List Int → Prop
  | done {am : List Int} : seenIn snk (bfs0 n ts src am) = [] → Fill n ts src snk am am
  | more {am am' : List Int} {q : Int} {r : List Int} : seenIn snk (bfs0 n ts src am) = q :: r → Fill n ts src snk (moreF ts am (bfs0 n ts src am) q) am' → Fill n ts src snk am am'
theorem Fill.det {n : Int} {ts : List Tie} {src snk a x y : List Int} (h : Fill n ts src snk a x) : Fill n ts src snk a y → x = y := by
  induction h with
  | done h1 =>
    intro g
    cases g with
    | done _ => rfl
    | more h2 _ => rw [h1] at h2; cases h2
  | more h1 _ ih =>
    intro g
    cases g with
    | done h2 => rw [h1] at h2; cases h2
    | more h2 g2 =>
      rw [h1] at h2
      cases h2
      exact ih g2
/-- the ends: in the web, each once, none both -/
structure Ends2 (n : Int) (src snk : List Int) : Prop where
  nd : src.Nodup
  nd2 : snk.Nodup
  rng : ∀ s ∈ src, 0 ≤ s ∧ s < n
  rng2 : ∀ s ∈ snk, 0 ≤ s ∧ s < n
  apart : ∀ s ∈ src, s ∉ snk
section
variable {n : Int} {ts : List Tie} {src snk am : List Int}
theorem way_ok (hin : TiesIn n ts) (e : Ends2 n src snk) {q : Int} (hq : q ∈ seenIn snk (bfs0 n ts src am)) :
    PathTo ts am src q (wayTo (bfs0 n ts src am) q) ∧ ((wayTo (bfs0 n ts src am) q).map (·.1)).Nodup ∧ wayTo (bfs0 n ts src am) q ≠ [] ∧ q ∈ snk ∧ q ∉ src := by
  obtain ⟨h1, _⟩ := bfs0_ok (am := am) hin e.nd e.rng
  obtain ⟨hk, hs⟩ := List.mem_filter.mp hq
  have hs := of_decide_eq_true hs
  obtain ⟨x, hx, rfl⟩ := List.mem_map.mp hk
  obtain ⟨j, hj⟩ := List.getElem?_of_mem hx
  have hjl := (List.getElem?_eq_some_iff.mp hj).1
  have hl : lookC (bfs0 n ts src am) x.1 = x.2 := lookC_mem h1.nd hx
  obtain ⟨p1, p2, _⟩ := path_ok hin h1 j x hj
  have ew : wayTo (bfs0 n ts src am) x.1 = pathF (bfs0 n ts src am) (j + 1) x.2 := by
    unfold wayTo
    rw [hl]
    exact pathF_fuel h1 j x hj _ (by omega)
  have hns : x.1 ∉ src := fun z => e.apart _ z hs
  rw [ew]
  refine ⟨p1, p2, fun z => ?_, hs, hns⟩
  rw [z] at p1
  cases p1 with
  | src h => exact hns h
theorem more_ok (hin : TiesIn n ts) (e : Ends2 n src snk) (F : Feas ts am) (hk : Kept ts am src snk) {q : Int} (hq : q ∈ seenIn snk (bfs0 n ts src am)) :
    Feas ts (moreF ts am (bfs0 n ts src am) q) ∧ Kept ts (moreF ts am (bfs0 n ts src am) q) src snk ∧ dotF ts am (indL src) + 1 ≤ dotF ts (moreF ts am (bfs0 n ts src am) q) (indL src) := by
  obtain ⟨p1, p2, p3, p4, p5⟩ := way_ok hin e hq
  unfold moreF
  generalize wayTo (bfs0 n ts src am) q = P at p1 p2 p3
  obtain ⟨m1, m2⟩ := leastL_ok (l := roomsF ts am P) (fun z => p3 (by unfold roomsF at z; exact List.map_eq_nil_iff.mp z))
  have hlink := p1.links
  have hm : 0 < leastL (roomsF ts am P) := by
    obtain ⟨s, hs, e2⟩ := List.mem_map.mp m1
    rw [← e2]
    exact (hlink s hs).1
  generalize leastL (roomsF ts am P) = m at m1 m2 hm
  obtain ⟨s, hs, hd⟩ := bringF_dot (m := m) hin p1 am F.len
  refine ⟨bringF_feas hin (by omega) P am F p2 fun s hs => ⟨m2 _ (List.mem_map.mpr ⟨s, hs, rfl⟩), (hlink s hs).2⟩, fun p hp1 hp2 => ?_, ?_⟩
  · unfold outF
    rw [hd]
    have h1 : one1 p s = 0 := if_neg fun z => hp1 (by rw [← z]; exact hs)
    have h2 : one1 p q = 0 := if_neg fun z => hp2 (by rw [← z]; exact p4)
    rw [h1, h2, Int.sub_self, Int.mul_zero, Int.add_zero]
    exact hk p hp1 hp2
  · rw [hd]
    have h1 : indL src s = 1 := if_pos hs
    have h2 : indL src q = 0 := if_neg p5
    rw [h1, h2]
    omega
theorem fill_ex (hin : TiesIn n ts) (e : Ends2 n src snk) : ∀ (k : Nat) (am : List Int), Feas ts am → Kept ts am src snk → (cutW ts src - dotF ts am (indL src)).toNat ≤ k →
    ∃ am', Fill n ts src snk am am' ∧ Feas ts am' ∧ Kept ts am' src snk ∧ seenIn snk (bfs0 n ts src am') = []
  | k, am, F, hk, hm => by
    cases h : seenIn snk (bfs0 n ts src am) with
    | nil => exact ⟨am, .done h, F, hk, h⟩
    | cons q r =>
      obtain ⟨g1, g2, g3⟩ := more_ok hin e F hk (q := q) (by rw [h]; exact List.mem_cons_self)
      have g4 := (dot_le (X := src) g1).1
      cases k with
      | zero => omega
      | succ k =>
        obtain ⟨am', a1, a2⟩ := fill_ex hin e k _ g1 g2 (by omega)
        exact ⟨am', .more h a1, a2⟩
def noAm (ts : List Tie) : List Int := List.replicate ts.length 0
theorem no_dot (g : Int → Int) : ∀ ts : List Tie, dotF ts (noAm ts) g = 0
  | [] => by unfold dotF; rfl
  | t :: ts => by
    show 0 * (g t.1 - g t.2.1) + dotF ts (noAm ts) g = 0
    rw [no_dot g ts, Int.zero_mul, Int.add_zero]
theorem no_feas (hw : ∀ t ∈ ts, 0 ≤ t.2.2) : Feas ts (noAm ts) := ⟨List.length_replicate, fun i t x h1 h2 => by
  have := hw t (List.mem_of_getElem? h1)
  have e : x = 0 := List.eq_of_mem_replicate (List.mem_of_getElem? h2)
  omega⟩
theorem no_kept : Kept ts (noAm ts) src snk := fun p _ _ => no_dot _ ts
theorem fill_0 (hin : TiesIn n ts) (hw : ∀ t ∈ ts, 0 ≤ t.2.2) (e : Ends2 n src snk) : ∃ am', Fill n ts src snk (noAm ts) am' ∧ Feas ts am' ∧ Kept ts am' src snk ∧ seenIn snk (bfs0 n ts src am') = [] :=
  fill_ex hin e _ _ (no_feas hw) no_kept (Nat.le_refl _)
/-- what is told of a web and its ends -/
structure Flowed (n : Int) (ts : List Tie) (src snk am : List Int) : Prop where
  fill : Fill n ts src snk (noAm ts) am
  feas : Feas ts am
  kept : Kept ts am src snk
  side : Side src snk (keysC (bfs0 n ts src am))
  closed : ClosedS ts am (keysC (bfs0 n ts src am))
  rng : ∀ p ∈ keysC (bfs0 n ts src am), 0 ≤ p ∧ p < n
theorem flowed_ex (hin : TiesIn n ts) (hw : ∀ t ∈ ts, 0 ≤ t.2.2) (e : Ends2 n src snk) : ∃ am, Flowed n ts src snk am := by
  obtain ⟨am, h1, h2, h3, h4⟩ := fill_0 hin hw e
  obtain ⟨g1, g2⟩ := bfs0_ok (am := am) hin e.nd e.rng
  refine ⟨am, h1, h2, h3, ⟨g1.nd, fun s hs => List.mem_map.mpr ⟨_, g1.beg s hs, rfl⟩, fun s hs hm => ?_⟩, g2, g1.rng⟩
  have : s ∈ seenIn snk (bfs0 n ts src am) := List.mem_filter.mpr ⟨hm, decide_eq_true hs⟩
  rw [h4] at this
  cases this
theorem Flowed.one {a b : List Int} (h : Flowed n ts src snk a) (g : Flowed n ts src snk b) : a = b := h.fill.det g.fill
/-- the side lies in each lightest one -/
theorem came_in (hin : TiesIn n ts) (hn : src.Nodup) (hr : ∀ s ∈ src, 0 ≤ s ∧ s < n) {X : List Int} (hX : ∀ s ∈ src, s ∈ X) (hc : ClosedS ts am X) : ∀ p ∈ keysC (bfs0 n ts src am), p ∈ X := fun p hp => by
  obtain ⟨h1, _⟩ := bfs0_ok (am := am) hin hn hr
  obtain ⟨x, hx, rfl⟩ := List.mem_map.mp hp
  obtain ⟨j, hj⟩ := List.getElem?_of_mem hx
  have key : ∀ j : Nat, ∀ x, (bfs0 n ts src am)[j]? = some x → x.1 ∈ X := by
    intro j
    induction j using Nat.strongRecOn with
    | ind j ih =>
      rintro ⟨q, o⟩ hj
      cases o with
      | none => exact hX _ (h1.non _ (List.mem_of_getElem? hj) rfl)
      | some s =>
        obtain ⟨i, h⟩ := s
        obtain ⟨j', o', k1, k2, k3, k4⟩ := h1.ent j q i h hj
        exact hc h (ih j' k1 _ k2) q ⟨i, k3, k4⟩
  exact key j x hj
/-- from where a sink can be reached -/
structure BackTo (n : Int) (ts : List Tie) (am snk L : List Int) : Prop where
  nd : L.Nodup
  rng : ∀ p ∈ L, 0 ≤ p ∧ p < n
  all : ∀ s ∈ snk, s ∈ L
  back : ∀ q ∈ L, ∀ p, Res ts am p q → p ∈ L
  least : ∀ Y : List Int, (∀ s ∈ snk, s ∈ Y) → (∀ q ∈ Y, ∀ p, Res ts am p q → p ∈ Y) → ∀ p ∈ L, p ∈ Y
theorem BackTo.one {L M : List Int} (h : BackTo n ts am snk L) (g : BackTo n ts am snk M) : ∀ p, p ∈ L ↔ p ∈ M := fun p => ⟨h.least M g.all g.back p, g.least L h.all h.back p⟩
def wideL (n : Int) (L : List Int) : List Int := (rngI 0 n.toNat).filter fun p => !decide (p ∈ L)
theorem wide_mem {L : List Int} {p : Int} : p ∈ wideL n L ↔ (0 ≤ p ∧ p < n) ∧ p ∉ L := by
  unfold wideL
  rw [List.mem_filter, rngI_mem]
  by_cases h : p ∈ L <;> simp [h] <;> omega
theorem res_in (hin : TiesIn n ts) {p q : Int} (h : Res ts am p q) : (0 ≤ p ∧ p < n) ∧ 0 ≤ q ∧ q < n := by
  obtain ⟨i, lk, _⟩ := h
  exact ⟨(lk.rng hin).1, (lk.rng hin).2.1⟩
theorem wide_closed (hin : TiesIn n ts) {L : List Int} (h : BackTo n ts am snk L) : ClosedS ts am (wideL n L) := fun p hp q hr => by
  rw [wide_mem] at hp ⊢
  exact ⟨(res_in hin hr).2, fun hq => hp.2 (h.back q hq p hr)⟩
theorem wide_side (hin : TiesIn n ts) (e : Ends2 n src snk) (F : Flowed n ts src snk am) {L : List Int} (h : BackTo n ts am snk L) : Side src snk (wideL n L) := by
  refine ⟨(rngI_nd _ _).filter _, fun s hs => wide_mem.mpr ⟨e.rng s hs, fun hL => ?_⟩, fun s hs hw => (wide_mem.mp hw).2 (h.all s hs)⟩
  -- what is not reached is closed backwards
  have := h.least ((rngI 0 n.toNat).filter fun p => !decide (p ∈ keysC (bfs0 n ts src am))) (fun t ht => ?_) (fun q hq p hr => ?_) s hL
  · rw [List.mem_filter] at this
    have h2 : s ∈ keysC (bfs0 n ts src am) := F.side.all s hs
    rw [decide_eq_true h2] at this
    exact absurd this.2 (by decide)
  · have := e.rng2 t ht
    rw [List.mem_filter, rngI_mem, decide_eq_false (F.side.no t ht)]
    exact ⟨by omega, rfl⟩
  · rw [List.mem_filter, rngI_mem] at hq ⊢
    have hpr := (res_in hin hr).1
    refine ⟨by omega, ?_⟩
    by_cases z : p ∈ keysC (bfs0 n ts src am)
    · rw [decide_eq_true (F.closed p z q hr)] at hq
      exact absurd hq.2 (by decide)
    · rw [decide_eq_false z]
      rfl
/-- each lightest side lies in the wide one -/
theorem in_wide (hin : TiesIn n ts) (e : Ends2 n src snk) {L X : List Int} (h : BackTo n ts am snk L) (hX : Side src snk X) (hr : ∀ p ∈ X, 0 ≤ p ∧ p < n) (hc : ClosedS ts am X) : ∀ p ∈ X, p ∈ wideL n L := fun p hp => by
  refine wide_mem.mpr ⟨hr p hp, fun hL => ?_⟩
  have := h.least ((rngI 0 n.toNat).filter fun p => !decide (p ∈ X)) (fun t ht => ?_) (fun q hq p hres => ?_) p hL
  · rw [List.mem_filter, decide_eq_true hp] at this
    exact absurd this.2 (by decide)
  · have := e.rng2 t ht
    rw [List.mem_filter, rngI_mem, decide_eq_false (hX.no t ht)]
    exact ⟨by omega, rfl⟩
  · rw [List.mem_filter, rngI_mem] at hq ⊢
    have hpr := (res_in hin hres).1
    refine ⟨by omega, ?_⟩
    by_cases z : p ∈ X
    · rw [decide_eq_true (hc p z q hres)] at hq
      exact absurd hq.2 (by decide)
    · rw [decide_eq_false z]
      rfl
end
end Pw

/-! ## PwTreeT -/
namespace Pw
open PySem PySem.Spec L2 Evl
/-! ### trees hung up by their first place, and what is cut behind each (nothing of the program here) -/
theorem sum_permT {l m : List Int} (h : l.Perm m) : l.sum = m.sum := by
  induction h with
  | nil => rfl
  | cons x _ ih => rw [List.sum_cons, List.sum_cons, ih]
  | swap x y l => rw [List.sum_cons, List.sum_cons, List.sum_cons, List.sum_cons]; omega
  | trans _ _ h1 h2 => exact h1.trans h2
structure Hung (n : Int) (ts : List Tie) (L : List Int) (par : Int → Int) : Prop where
  perm : L.Perm (rngI 0 n.toNat)
  fst : L[0]? = some 0
  up : ∀ (i : Nat) (c : Int), L[i + 1]? = some c → ∃ j, j ≤ i ∧ L[j]? = some (par c) ∧ Adj ts (par c) c
section
variable {n : Int} {ts : List Tie} {L : List Int} {par : Int → Int}
theorem Hung.nd (h : Hung n ts L par) : L.Nodup := h.perm.nodup_iff.mpr (rngI_nd _ _)
theorem Hung.mem (h : Hung n ts L par) {x : Int} : x ∈ L ↔ 0 ≤ x ∧ x < n := by
  rw [h.perm.mem_iff, rngI_mem]
  omega
theorem Hung.idx (h : Hung n ts L par) {c : Int} (hc : 0 < c ∧ c < n) : ∃ i, L[i + 1]? = some c := by
  have hm : c ∈ L := h.mem.mpr ⟨by omega, hc.2⟩
  obtain ⟨i, hi⟩ := List.getElem?_of_mem hm
  cases i with
  | zero =>
    rw [h.fst] at hi
    cases hi
    omega
  | succ i => exact ⟨i, hi⟩
theorem Hung.par_rng (h : Hung n ts L par) {c : Int} (hc : 0 < c ∧ c < n) : 0 ≤ par c ∧ par c < n ∧ Adj ts (par c) c := by
  obtain ⟨i, hi⟩ := h.idx hc
  obtain ⟨j, _, hj, ha⟩ := h.up i c hi
  have := h.mem.mp (List.mem_of_getElem? hj)
  exact ⟨this.1, this.2, ha⟩
theorem Hung.pos (h : Hung n ts L par) : 0 < n := by
  have := h.mem.mp (List.mem_of_getElem? h.fst)
  omega
/-- places hang together with the first one, without a tie that is no one's own -/
theorem Hung.conn0 (h : Hung n ts L par) {t : Tie} (ht : ∀ c, 0 < c ∧ c < n → ∀ u ∈ ts, (u.1 = par c ∧ u.2.1 = c ∨ u.1 = c ∧ u.2.1 = par c) → (u.1, u.2.1) ≠ (t.1, t.2.1)) : ∀ (k i : Nat) (c : Int), i ≤ k → L[i]? = some c → Conn (wo ts t) 0 c
  | k, 0, c, _, hc => by
    rw [h.fst] at hc
    cases hc
    exact .refl
  | 0, i + 1, c, hk, _ => by omega
  | k + 1, i + 1, c, hk, hc => by
    obtain ⟨j, hj, hp, ha⟩ := h.up i c hc
    have hc0 : 0 < c ∧ c < n := by
      have := h.mem.mp (List.mem_of_getElem? hc)
      refine ⟨?_, this.2⟩
      by_cases z : c = 0
      · subst z
        have := nd_at h.nd hc h.fst
        omega
      · omega
    obtain ⟨u, hu, e⟩ := ha
    exact (h.conn0 ht k j (par c) (by omega) hp).tail ⟨u, wo_mem.mpr ⟨hu, ht c hc0 u hu e⟩, e⟩
/-- a tie is one by which a place hangs -/
theorem Hung.tie (T : TreeW n ts) (h : Hung n ts L par) {t : Tie} (ht : t ∈ ts) : ∃ c, (0 < c ∧ c < n) ∧ (t.1 = par c ∧ t.2.1 = c ∨ t.1 = c ∧ t.2.1 = par c) := by
  refine Classical.byContradiction fun hz => ?_
  have hr := T.web.tie t ht
  have key : ∀ c, 0 < c ∧ c < n → ∀ u ∈ ts, (u.1 = par c ∧ u.2.1 = c ∨ u.1 = c ∧ u.2.1 = par c) → (u.1, u.2.1) ≠ (t.1, t.2.1) := fun c hc u hu e z => by
    rw [Prod.mk.injEq] at z
    exact hz ⟨c, hc, by rw [← z.1, ← z.2]; exact e⟩
  have at_ : ∀ x, 0 ≤ x ∧ x < n → Conn (wo ts t) 0 x := fun x hx => by
    obtain ⟨i, hi⟩ := List.getElem?_of_mem (h.mem.mpr hx)
    exact h.conn0 key i i x (Nat.le_refl _) hi
  exact T.bri t ht ((at_ t.1 (by omega)).symm.trans (at_ t.2.1 (by omega)))
theorem Hung.adj (T : TreeW n ts) (h : Hung n ts L par) {x y : Int} (a : Adj ts x y) : ((0 < y ∧ y < n) ∧ par y = x) ∨ ((0 < x ∧ x < n) ∧ par x = y) := by
  obtain ⟨t, ht, e⟩ := a
  obtain ⟨c, hc, e2⟩ := h.tie T ht
  by_cases z : y = c
  · subst z
    exact .inl ⟨hc, by omega⟩
  · have : x = c := by omega
    subst this
    exact .inr ⟨hc, by omega⟩
/-- on which a place hangs is one and the same, however the tree is gone through -/
theorem Hung.par_one (T : TreeW n ts) {L' : List Int} {par' : Int → Int} (h : Hung n ts L par) (h' : Hung n ts L' par') : ∀ (k i : Nat) (c : Int), i ≤ k → L'[i + 1]? = some c → par c = par' c
  | k, i, c, hk, hc => by
    have hc0 : 0 < c ∧ c < n := by
      have := h'.mem.mp (List.mem_of_getElem? hc)
      refine ⟨?_, this.2⟩
      by_cases z : c = 0
      · subst z
        have := nd_at h'.nd hc h'.fst
        omega
      · omega
    obtain ⟨j, hj, hp, ha⟩ := h'.up i c hc
    rcases h.adj T ha with ⟨_, e⟩ | ⟨hd, e⟩
    · exact e
    · -- the place above would hang on this one
      exfalso
      cases j with
      | zero =>
        rw [h'.fst] at hp
        have := Option.some.inj hp
        omega
      | succ j =>
        cases k with
        | zero => omega
        | succ k =>
          have e2 := h.par_one T h' k j (par' c) (by omega) hp
          rw [e] at e2
          obtain ⟨j2, hj2, hp2, _⟩ := h'.up j (par' c) hp
          rw [← e2] at hp2
          have := nd_at h'.nd hp2 hc
          omega
theorem Hung.par_eq (T : TreeW n ts) {L' : List Int} {par' : Int → Int} (h : Hung n ts L par) (h' : Hung n ts L' par') {c : Int} (hc : 0 < c ∧ c < n) : par c = par' c := by
  obtain ⟨i, hi⟩ := h'.idx hc
  exact h.par_one T h' i i c (Nat.le_refl _) hi
/-- two places that hang on one another are one -/
theorem Hung.above (h : Hung n ts L par) : ∀ (i : Nat) (c : Int), L[i + 1]? = some c → ∃ j, j ≤ i ∧ L[j]? = some (par c) := fun i c hc => by
  obtain ⟨j, hj, hp, _⟩ := h.up i c hc
  exact ⟨j, hj, hp⟩
/-- the weight of the tie by which a place hangs -/
def wUp (ts : List Tie) (par : Int → Int) (c : Int) : Int := wOfT ts (mP (par c, c))
theorem wUp_at (T : TreeW n ts) {t : Tie} (ht : t ∈ ts) {c : Int} (e : t.1 = par c ∧ t.2.1 = c ∨ t.1 = c ∧ t.2.1 = par c) : wUp ts par c = t.2.2 := by
  unfold wUp
  rw [mP_tie (T.web.tie t ht).2.1 e, wOfT_at T.web ht]
/-- a sum over the ties, as one over the places but the first -/
theorem Hung.sum (T : TreeW n ts) (h : Hung n ts L par) {f : Tie → Int} {g : Int → Int} (hf : ∀ t ∈ ts, ∀ c, (0 < c ∧ c < n) → (t.1 = par c ∧ t.2.1 = c ∨ t.1 = c ∧ t.2.1 = par c) → f t = g c) : (ts.map f).sum = ((rngI 1 (n - 1).toNat).map g).sum := by
  classical
  let tie : Int → Tie := fun c => ((mP (par c, c)).1, (mP (par c, c)).2, wUp ts par c)
  have htie : ∀ c, 0 < c ∧ c < n → ∃ t ∈ ts, (t.1 = par c ∧ t.2.1 = c ∨ t.1 = c ∧ t.2.1 = par c) ∧ tie c = t := fun c hc => by
    obtain ⟨_, _, t, ht, e⟩ := h.par_rng hc
    refine ⟨t, ht, e, ?_⟩
    show ((mP (par c, c)).1, (mP (par c, c)).2, wUp ts par c) = t
    rw [wUp_at T ht e, mP_tie (T.web.tie t ht).2.1 e]
  have hperm : ts.Perm ((rngI 1 (n - 1).toNat).map tie) := by
    refine (List.perm_ext_iff_of_nodup ?_ ?_).mpr fun t => ?_
    · exact T.web.rise.imp fun {a b} hab e => by
        subst e
        unfold pairLt at hab
        omega
    · refine List.pairwise_map.mpr ((rngI_nd 1 (n - 1).toNat).imp_of_mem fun {a b} ha hb hne e => ?_)
      have ha' := rngI_mem.mp ha
      have hb' := rngI_mem.mp hb
      have ha0 : 0 < a ∧ a < n := by omega
      have hb0 : 0 < b ∧ b < n := by omega
      obtain ⟨t, ht, e1, e2⟩ := htie a ha0
      obtain ⟨u, hu, e3, e4⟩ := htie b hb0
      rw [e2, e4] at e
      subst e
      have hr := T.web.tie t ht
      have hpa : par a = b ∧ par b = a := by omega
      obtain ⟨i, hi⟩ := h.idx ha0
      obtain ⟨j, hj⟩ := h.idx hb0
      obtain ⟨i', hi', hpi⟩ := h.above i a hi
      obtain ⟨j', hj', hpj⟩ := h.above j b hj
      rw [hpa.1] at hpi
      rw [hpa.2] at hpj
      have := nd_at h.nd hpi hj
      have := nd_at h.nd hpj hi
      omega
    · refine ⟨fun ht => ?_, fun ht => ?_⟩
      · obtain ⟨c, hc, e⟩ := h.tie T ht
        obtain ⟨u, hu, e1, e2⟩ := htie c hc
        refine List.mem_map.mpr ⟨c, rngI_mem.mpr (by omega), ?_⟩
        rw [e2]
        have h1 := T.web.tie t ht
        have h2 := T.web.tie u hu
        exact tie_one T.web hu ht (by rw [Prod.mk.injEq]; omega)
      · obtain ⟨c, hc, rfl⟩ := List.mem_map.mp ht
        have hc := rngI_mem.mp hc
        obtain ⟨u, hu, _, e2⟩ := htie c (by omega)
        rw [e2]
        exact hu
  rw [sum_permT (hperm.map f), List.map_map]
  refine congrArg List.sum (List.map_congr_left fun c hc => ?_)
  have hc := rngI_mem.mp hc
  obtain ⟨t, ht, e1, e2⟩ := htie c (by omega)
  show f (tie c) = g c
  rw [e2]
  exact hf t ht c (by omega) e1
/-! #### rows -/
/-- what each post's part of a row may be: None where it is another post's place -/
abbrev Row := List (Option Int)
def blocked (ps : List Int) (p : Int) (k : Nat) : Bool := decide (p ∈ ps) && !decide (ps[k]? = some p)
def rowOf (ps : List Int) (p : Int) (g : Nat → Int) : Row := (List.range ps.length).map fun k => if blocked ps p k = true then none else some (g k)
def valR (r : Row) (k : Nat) : Int := ((r[k]?).getD none).getD 0
/-- the costs of a row's numbers, each but one with a weight more -/
def costsR (r : Row) (w : Int) (k : Nat) : List Int := (r.zipIdx.filterMap fun q => q.1.map fun c => c + w * (if q.2 = k then 0 else 1))
def cheapR (r : Row) (w : Int) (k : Nat) : Int := leastL (costsR r w k)
def kidsT (n : Int) (par : Int → Int) (p : Int) : List Int := (rngI 1 (n - 1).toNat).filter fun c => decide (par c = p)
/-- the table: each place's row by the rows of those that hang on it -/
structure TabOk (n : Int) (ps : List Int) (par wt : Int → Int) (Tb : Int → Row) : Prop where
  row : ∀ p, 0 ≤ p ∧ p < n → Tb p = rowOf ps p fun k => ((kidsT n par p).map fun c => cheapR (Tb c) (wt c) k).sum
theorem row_len (ps : List Int) (p : Int) (g : Nat → Int) : (rowOf ps p g).length = ps.length := by
  unfold rowOf
  rw [List.length_map, List.length_range]
theorem row_at {ps : List Int} {p : Int} {g : Nat → Int} {k : Nat} (hk : k < ps.length) : (rowOf ps p g)[k]? = some (if blocked ps p k = true then none else some (g k)) := by
  unfold rowOf
  rw [List.getElem?_map, List.getElem?_range hk]
  rfl
theorem row_val {ps : List Int} {p : Int} {g : Nat → Int} {k : Nat} (hk : k < ps.length) (hb : blocked ps p k = false) : valR (rowOf ps p g) k = g k := by
  unfold valR
  rw [row_at hk, hb]
  rfl
theorem costs_mem {r : Row} {w : Int} {k : Nat} {x : Int} : x ∈ costsR r w k ↔ ∃ (j : Nat) (c : Int), r[j]? = some (some c) ∧ x = c + w * (if j = k then 0 else 1) := by
  unfold costsR
  rw [List.mem_filterMap]
  constructor
  · rintro ⟨⟨y, j⟩, hm, e⟩
    rw [List.mem_zipIdx_iff_getElem?] at hm
    obtain ⟨c, hc, rfl⟩ := Option.map_eq_some_iff.mp e
    have hc : y = some c := hc
    subst hc
    exact ⟨j, c, hm, rfl⟩
  · rintro ⟨j, c, hj, rfl⟩
    exact ⟨(some c, j), List.mem_zipIdx_iff_getElem?.mpr hj, rfl⟩
/-- some post may own it -/
def openR (r : Row) : Prop := ∃ (j : Nat) (c : Int), r[j]? = some (some c)
theorem cheap_le {r : Row} {w : Int} {k j : Nat} {c : Int} (h : r[j]? = some (some c)) : cheapR r w k ≤ c + w * (if j = k then 0 else 1) := by
  have hm : c + w * (if j = k then 0 else 1) ∈ costsR r w k := costs_mem.mpr ⟨j, c, h, rfl⟩
  exact (leastL_ok (List.ne_nil_of_mem hm)).2 _ hm
theorem cheap_at {r : Row} {w : Int} {k : Nat} (h : openR r) : ∃ (j : Nat) (c : Int), r[j]? = some (some c) ∧ cheapR r w k = c + w * (if j = k then 0 else 1) := by
  obtain ⟨j, c, hj⟩ := h
  have hm : c + w * (if j = k then 0 else 1) ∈ costsR r w k := costs_mem.mpr ⟨j, c, hj, rfl⟩
  exact costs_mem.mp (leastL_ok (List.ne_nil_of_mem hm)).1
theorem row_open {ps : List Int} {p : Int} {g : Nat → Int} (hne : ps ≠ []) : openR (rowOf ps p g) := by
  by_cases hp : p ∈ ps
  · obtain ⟨k, hk⟩ := List.getElem?_of_mem hp
    have hkl := (List.getElem?_eq_some_iff.mp hk).1
    refine ⟨k, g k, ?_⟩
    rw [row_at hkl]
    unfold blocked
    rw [decide_eq_true hk]
    simp
  · refine ⟨0, g 0, ?_⟩
    rw [row_at (List.length_pos_iff.mpr hne)]
    unfold blocked
    rw [decide_eq_false hp]
    rfl
theorem sumZ : ∀ (X : List Int), (X.map fun _ => (0 : Int)).sum = 0
  | [] => rfl
  | x :: X => by
    rw [List.map_cons, List.sum_cons, sumZ X]
    rfl
/-- each place hangs on one -/
theorem kids_sum {par : Int → Int} {g : Int → Int} : ∀ (C X : List Int), X.Nodup → (∀ c ∈ C, par c ∈ X) → (X.map fun p => ((C.filter fun c => decide (par c = p)).map g).sum).sum = (C.map g).sum
  | [], X, _, _ => sumZ X
  | c :: C, X, hX, hC => by
    have ih := kids_sum (g := g) C X hX fun c hc => hC c (List.mem_cons_of_mem _ hc)
    have key : ∀ (X : List Int), X.Nodup → (X.map fun p => (((c :: C).filter fun c => decide (par c = p)).map g).sum).sum = (if par c ∈ X then g c else 0) + (X.map fun p => ((C.filter fun c => decide (par c = p)).map g).sum).sum := fun X => by
      induction X with
      | nil => intro _; rfl
      | cons x X ih =>
        intro hn
        obtain ⟨h1, h2⟩ := List.nodup_cons.mp hn
        rw [List.map_cons, List.sum_cons, ih h2, List.map_cons, List.sum_cons, List.filter_cons]
        by_cases e : par c = x
        · rw [if_pos (decide_eq_true e), if_neg (by rw [e]; exact h1), if_pos (by rw [e]; exact List.mem_cons_self), List.map_cons, List.sum_cons]
          omega
        · have e2 : par c ∈ x :: X ↔ par c ∈ X := by
            rw [List.mem_cons]
            exact ⟨fun h => h.resolve_left e, .inr⟩
          rw [if_neg (by rw [decide_eq_false e]; decide)]
          by_cases z : par c ∈ X
          · rw [if_pos z, if_pos (e2.mpr z)]
            omega
          · rw [if_neg z, if_neg fun y => z (e2.mp y)]
            omega
    rw [key X hX, if_pos (hC c List.mem_cons_self), ih, List.map_cons, List.sum_cons]
theorem sum_le_map {f g : Int → Int} : ∀ {X : List Int}, (∀ x ∈ X, f x ≤ g x) → (X.map f).sum ≤ (X.map g).sum
  | [], _ => Int.le_refl _
  | x :: X, h => by
    rw [List.map_cons, List.map_cons, List.sum_cons, List.sum_cons]
    have h1 := h x List.mem_cons_self
    have h2 := sum_le_map (X := X) fun y hy => h y (List.mem_cons_of_mem _ hy)
    omega
theorem sum_addM {f g : Int → Int} : ∀ (X : List Int), (X.map fun x => f x + g x).sum = (X.map f).sum + (X.map g).sum
  | [] => rfl
  | x :: X => by
    rw [List.map_cons, List.map_cons, List.map_cons, List.sum_cons, List.sum_cons, List.sum_cons, sum_addM X]
    omega
section
variable {n : Int} {ts : List Tie} {L : List Int} {par : Int → Int} {ps : List Int} {Tb : Int → Row}
/-- which post's number owns a place -/
structure NumsOk (n : Int) (ps : List Int) (ow : Int → Nat) : Prop where
  lt : ∀ p, 0 ≤ p ∧ p < n → ow p < ps.length
  ok : ∀ p, 0 ≤ p ∧ p < n → blocked ps p (ow p) = false
/-- what owners cut of a tree -/
def costT (ts : List Tie) (ow : Int → Nat) : Int := (ts.map fun t => if ow t.1 = ow t.2.1 then 0 else t.2.2).sum
theorem rngI_head {n : Int} (h : 0 < n) : rngI 0 n.toNat = 0 :: rngI 1 (n - 1).toNat := by
  refine List.ext_getElem? fun i => ?_
  by_cases hi : i < n.toNat
  · rw [rngI_get hi]
    cases i with
    | zero => rfl
    | succ i =>
      rw [List.getElem?_cons_succ, rngI_get (by omega)]
      congr 1
      omega
  · rw [List.getElem?_eq_none (by rw [rngI_len]; omega), List.getElem?_eq_none (by rw [List.length_cons, rngI_len]; omega)]
theorem tree_eq (T : TreeW n ts) (h : Hung n ts L par) (hT : TabOk n ps par (wUp ts par) Tb) {ow : Int → Nat} (ho : NumsOk n ps ow) :
    costT ts ow = valR (Tb 0) (ow 0) + ((rngI 1 (n - 1).toNat).map fun c => wUp ts par c * (if ow c = ow (par c) then 0 else 1) + valR (Tb c) (ow c) - cheapR (Tb c) (wUp ts par c) (ow (par c))).sum := by
  have hn := h.pos
  have e1 : costT ts ow = ((rngI 1 (n - 1).toNat).map fun c => wUp ts par c * (if ow c = ow (par c) then 0 else 1)).sum := h.sum T fun t ht c hc e => by
    rw [wUp_at T ht e]
    rcases e with ⟨h1, h2⟩ | ⟨h1, h2⟩
    · rw [h1, h2]
      by_cases z : ow c = ow (par c)
      · rw [if_pos z, if_pos z.symm]
        omega
      · rw [if_neg z, if_neg fun y => z y.symm]
        omega
    · rw [h1, h2]
      by_cases z : ow c = ow (par c)
      · rw [if_pos z, if_pos z]
        omega
      · rw [if_neg z, if_neg z]
        omega
  have e2 : ((rngI 0 n.toNat).map fun p => valR (Tb p) (ow p)).sum = ((rngI 1 (n - 1).toNat).map fun c => cheapR (Tb c) (wUp ts par c) (ow (par c))).sum := by
    rw [← kids_sum (par := par) (g := fun c => cheapR (Tb c) (wUp ts par c) (ow (par c))) (rngI 1 (n - 1).toNat) (rngI 0 n.toNat) (rngI_nd _ _) fun c hc => by
      have hc := rngI_mem.mp hc
      have := h.par_rng (c := c) (by omega)
      exact rngI_mem.mpr (by omega)]
    refine congrArg List.sum (List.map_congr_left fun p hp => ?_)
    have hp := rngI_mem.mp hp
    have hp0 : 0 ≤ p ∧ p < n := by omega
    rw [hT.row p hp0, row_val (ho.lt p hp0) (ho.ok p hp0)]
    refine congrArg List.sum (List.map_congr_left fun c hc => ?_)
    have hc := of_decide_eq_true (List.mem_filter.mp hc).2
    rw [hc]
  rw [rngI_head hn, List.map_cons, List.sum_cons] at e2
  have e3 : ((rngI 1 (n - 1).toNat).map fun c => wUp ts par c * (if ow c = ow (par c) then 0 else 1) + valR (Tb c) (ow c) - cheapR (Tb c) (wUp ts par c) (ow (par c))).sum + ((rngI 1 (n - 1).toNat).map fun c => cheapR (Tb c) (wUp ts par c) (ow (par c))).sum = ((rngI 1 (n - 1).toNat).map fun c => wUp ts par c * (if ow c = ow (par c) then 0 else 1)).sum + ((rngI 1 (n - 1).toNat).map fun c => valR (Tb c) (ow c)).sum := by
    rw [← sum_addM, ← sum_addM]
    refine congrArg List.sum (List.map_congr_left fun c _ => ?_)
    omega
  omega
theorem tab_open (hT : TabOk n ps par (wUp ts par) Tb) (hne : ps ≠ []) {p : Int} (hp : 0 ≤ p ∧ p < n) : openR (Tb p) := by
  rw [hT.row p hp]
  exact row_open hne
theorem tab_some (hT : TabOk n ps par (wUp ts par) Tb) {ow : Int → Nat} (ho : NumsOk n ps ow) {p : Int} (hp : 0 ≤ p ∧ p < n) : (Tb p)[ow p]? = some (some (valR (Tb p) (ow p))) := by
  have h1 := row_at (ps := ps) (p := p) (g := fun k => ((kidsT n par p).map fun c => cheapR (Tb c) (wUp ts par c) k).sum) (ho.lt p hp)
  rw [ho.ok p hp, ← hT.row p hp] at h1
  have h2 : valR (Tb p) (ow p) = ((kidsT n par p).map fun c => cheapR (Tb c) (wUp ts par c) (ow p)).sum := by
    unfold valR
    rw [h1]
    rfl
  rw [h2, h1]
  rfl
theorem tree_low (T : TreeW n ts) (h : Hung n ts L par) (hT : TabOk n ps par (wUp ts par) Tb) {ow : Int → Nat} (ho : NumsOk n ps ow) : cheapR (Tb 0) 0 0 ≤ costT ts ow := by
  have hn := h.pos
  rw [tree_eq T h hT ho]
  have h1 : cheapR (Tb 0) 0 0 ≤ valR (Tb 0) (ow 0) := by
    have := cheap_le (w := 0) (k := 0) (tab_some hT ho (p := 0) (by omega))
    omega
  have h2 : 0 ≤ ((rngI 1 (n - 1).toNat).map fun c => wUp ts par c * (if ow c = ow (par c) then 0 else 1) + valR (Tb c) (ow c) - cheapR (Tb c) (wUp ts par c) (ow (par c))).sum := by
    have := sum_le_map (X := rngI 1 (n - 1).toNat) (f := fun _ => 0) (g := fun c => wUp ts par c * (if ow c = ow (par c) then 0 else 1) + valR (Tb c) (ow c) - cheapR (Tb c) (wUp ts par c) (ow (par c))) fun c hc => by
      have hc := rngI_mem.mp hc
      have := cheap_le (w := wUp ts par c) (k := ow (par c)) (tab_some hT ho (p := c) (by omega))
      omega
    rw [sumZ] at this
    exact this
  omega
theorem tree_hit (T : TreeW n ts) (h : Hung n ts L par) (hT : TabOk n ps par (wUp ts par) Tb) {ow : Int → Nat} (ho : NumsOk n ps ow) (h0 : valR (Tb 0) (ow 0) = cheapR (Tb 0) 0 0) (hc : ∀ c, 0 < c ∧ c < n → wUp ts par c * (if ow c = ow (par c) then 0 else 1) + valR (Tb c) (ow c) = cheapR (Tb c) (wUp ts par c) (ow (par c))) : costT ts ow = cheapR (Tb 0) 0 0 := by
  rw [tree_eq T h hT ho, h0]
  have : ((rngI 1 (n - 1).toNat).map fun c => wUp ts par c * (if ow c = ow (par c) then 0 else 1) + valR (Tb c) (ow c) - cheapR (Tb c) (wUp ts par c) (ow (par c))) = (rngI 1 (n - 1).toNat).map fun _ => 0 := List.map_congr_left fun c hm => by
    have hm := rngI_mem.mp hm
    have := hc c (by omega)
    omega
  rw [this, sumZ]
  omega
/-! #### the table itself -/
def tabF (n : Int) (ps : List Int) (par wt : Int → Int) : Nat → Int → Row
  | 0, p => rowOf ps p fun _ => 0
  | f + 1, p => rowOf ps p fun k => ((kidsT n par p).map fun c => cheapR (tabF n ps par wt f c) (wt c) k).sum
def tabT (n : Int) (ps : List Int) (ts : List Tie) (par : Int → Int) : Int → Row := tabF n ps par (wUp ts par) n.toNat
theorem kids_mem {n : Int} {par : Int → Int} {p c : Int} : c ∈ kidsT n par p ↔ (0 < c ∧ c < n) ∧ par c = p := by
  unfold kidsT
  rw [List.mem_filter, rngI_mem, decide_eq_true_iff]
  omega
theorem Hung.kid_idx (h : Hung n ts L par) {i : Nat} {p c : Int} (hi : L[i]? = some p) (hc : c ∈ kidsT n par p) : ∃ j, i < j ∧ L[j]? = some c := by
  obtain ⟨hc, e⟩ := kids_mem.mp hc
  obtain ⟨j, hj⟩ := h.idx hc
  obtain ⟨k, hk, hp⟩ := h.above j c hj
  rw [e] at hp
  have := nd_at h.nd hi hp
  exact ⟨j + 1, by omega, hj⟩
theorem tab_fuel (h : Hung n ts L par) (wt : Int → Int) : ∀ (f i : Nat) (p : Int), L[i]? = some p → L.length ≤ i + f → tabF n ps par wt f p = tabF n ps par wt (f + 1) p
  | 0, i, p, hi, hl => by
    have := (List.getElem?_eq_some_iff.mp hi).1
    omega
  | f + 1, i, p, hi, hl => by
    show rowOf ps p _ = rowOf ps p _
    congr 1
    funext k
    refine congrArg List.sum (List.map_congr_left fun c hc => ?_)
    obtain ⟨j, hj, hjc⟩ := h.kid_idx hi hc
    rw [tab_fuel h wt f j c hjc (by omega)]
theorem Hung.len (h : Hung n ts L par) : L.length = n.toNat := by rw [h.perm.length_eq, rngI_len]
theorem tab_ok (h : Hung n ts L par) : TabOk n ps par (wUp ts par) (tabT n ps ts par) := ⟨fun p hp => by
  obtain ⟨i, hi⟩ := List.getElem?_of_mem (h.mem.mpr hp)
  have hl := h.len
  unfold tabT
  rw [tab_fuel h _ _ i p hi (by omega)]
  rfl⟩
theorem tab_congr {par' : Int → Int} (he : ∀ c, 0 < c ∧ c < n → par c = par' c) : ∀ (f : Nat) (p : Int), tabF n ps par (wUp ts par) f p = tabF n ps par' (wUp ts par') f p
  | 0, p => rfl
  | f + 1, p => by
    show rowOf ps p _ = rowOf ps p _
    congr 1
    funext k
    have hk : kidsT n par p = kidsT n par' p := by
      unfold kidsT
      refine List.filter_congr fun c hc => ?_
      have hc := rngI_mem.mp hc
      rw [he c (by omega)]
    rw [hk]
    refine congrArg List.sum (List.map_congr_left fun c hc => ?_)
    have hc := (kids_mem.mp hc).1
    rw [tab_congr he f c]
    unfold wUp
    rw [he c hc]
theorem tab_one (T : TreeW n ts) {L' : List Int} {par' : Int → Int} (h : Hung n ts L par) (h' : Hung n ts L' par') : tabT n ps ts par = tabT n ps ts par' := funext fun p => tab_congr (fun c hc => h.par_eq T h' hc) _ p
/-- a row put together bit by bit -/
def addR (r : Row) (g : Nat → Int) : Row := r.zipIdx.map fun q => q.1.map fun c => c + g q.2
theorem addR_row (ps : List Int) (p : Int) (f g : Nat → Int) : addR (rowOf ps p f) g = rowOf ps p fun k => f k + g k := by
  unfold addR
  refine List.ext_getElem? fun k => ?_
  by_cases hk : k < ps.length
  · rw [List.getElem?_map, List.getElem?_zipIdx, row_at hk, row_at hk]
    split <;> simp
  · rw [List.getElem?_eq_none (by rw [List.length_map, List.length_zipIdx, row_len]; omega), List.getElem?_eq_none (by rw [row_len]; omega)]
end
end
end Pw

/-! ## PwFlowO -/
namespace Pw
open PySem L2 Evl

/-! ### the object that flows, as the program keeps it -/
def eN (e : Nat × Int) : PyData := pairD ((e.1 : Int), e.2)
def nearN (n : Int) (ts : List Tie) : PyData := .list ((rngI 0 n.toNat).map fun p => .list ((nbN ts p).map eN))
theorem nbN_snoc (ts : List Tie) (t : Tie) (p : Int) : nbN (ts ++ [t]) p = nbN ts p ++ ((if t.1 = p then [(ts.length, t.2.1)] else []) ++ (if t.2.1 = p then [(ts.length, t.1)] else [])) := by
  unfold nbN
  rw [List.zipIdx_append, List.flatMap_append]
  simp
theorem nbN_len : ∀ (ts : List Tie) (p : Int) (k : Nat), ((ts.zipIdx k).flatMap fun x => (if x.1.1 = p then [(x.2, x.1.2.1)] else []) ++ (if x.1.2.1 = p then [(x.2, x.1.1)] else [])).length ≤ 2 * ts.length
  | [], _, _ => Nat.zero_le _
  | t :: ts, p, k => by
    have ih := nbN_len ts p (k + 1)
    rw [List.zipIdx_cons, List.flatMap_cons, List.length_append, List.length_append, List.length_cons]
    have h1 : (if t.1 = p then [(k, t.2.1)] else []).length ≤ 1 := by split <;> exact Nat.le_of_ble_eq_true rfl
    have h2 : (if t.2.1 = p then [(k, t.1)] else []).length ≤ 1 := by split <;> exact Nat.le_of_ble_eq_true rfl
    have h1 : (if (t, k).1.1 = p then [((t, k).2, (t, k).1.2.1)] else []).length ≤ 1 := h1
    have h2 : (if (t, k).1.2.1 = p then [((t, k).2, (t, k).1.1)] else []).length ≤ 1 := h2
    omega
theorem nbN_few (ts : List Tie) (p : Int) : (nbN ts p).length ≤ 2 * ts.length := nbN_len ts p 0
def FlowObj (K : PySem.W.Frag) (C p A : Addr) (n : Int) (ts : List Tie) (B : Hp) : Prop := ∃ dx fs t nr, B p = some (.ins C dx fs) ∧ fs.lookup ("ties" : Str) = some t ∧ Dq K B t (.tuple (ts.map tieD)) ∧ fs.lookup ("near" : Str) = some nr ∧ Dq K B nr (nearN n ts) ∧
  fs.lookup ("amounts" : Str) = some (.ref A) ∧ ∀ m : Str, ¬ m = "ties" → ¬ m = "near" → ¬ m = "amounts" → fs.lookup m = none
section
variable {K : PySem.W.Frag} {σ : L2.St} {B B' H : Hp} {S : List Addr} {C p A L pa : Addr} {n : Int} {ts : List Tie} {am : List Int} {tA : TA} {D : Ends}
theorem FlowObj.mono (h : FlowObj K C p A n ts B) (e : Ex B B') : FlowObj K C p A n ts B' := by
  obtain ⟨dx, fs, t, nr, h1, h2, h3, h4, h5, h6, h7⟩ := h
  exact ⟨dx, fs, t, nr, e _ _ h1, h2, Dq.mono e h3, h4, Dq.mono e h5, h6, h7⟩
theorem FlowObj.ne (h : FlowObj K C p A n ts B) {a : Addr} (ha : B a = none) : p ≠ a := by
  obtain ⟨dx, fs, t, nr, h1, _⟩ := h
  exact ne_of_none h1 ha
/-- self.near[x[i]].append((number, x[j])) -/
theorem near_app {dx : Addr} {fs : List (Str × V)} {ps : List Addr} {ta : Addr} {ys xs : List V} {num cx cy ka : Int} {vb : V} (h0 : σ[0]? = some (some (.ref p))) (h2 : σ[2]? = some (some (.int num))) (h3 : σ[3]? = some (some (.ref ta))) (hp : H p = some (.ins C dx fs)) (c : Cls K C) (nn : NoAttr K C "near") (lk : fs.lookup ("near" : Str) = some (.ref L))
    (ht : H ta = some (.tup xs)) (hx : atI xs cx = some (.int ka)) (hy : atI xs cy = some vb) (hL : H L = some (.lst (ps.map V.ref))) (hat : atI (ps.map V.ref) ka = some (.ref pa)) (hpa : H pa = some (.lst ys)) (hl : ys.length ≤ 40000)
    (q : ∀ r, H r = none → D.nx σ (upd (upd H r (.tup [.int num, vb])) pa (.lst (ys ++ [.ref r])))) :
    tDrop (tBM K "list" rAppend (tOp (rIxL K) (tFld K (tVar 0) "near") (tOp (rIxT K) (tVar 3) (tC (.int cx)))) (tCons (tTup (tCons (tVar 2) (tCons (tOp (rIxT K) (tVar 3) (tC (.int cy))) tNil))) tNil)) D σ H :=
  ⟨_, h0, p, C, dx, fs, _, rfl, hp, c, nn, lk, _, h3, ta, xs, cx, _, rfl, rfl, st_of ht, hx, L, _, ka, _, rfl, rfl, sq_of hL, hat, .inl ⟨rfl, _, sq_of hpa⟩, _, h2, _, h3, ta, xs, cy, vb, rfl, rfl, st_of ht, hy, Nat.le_of_ble_eq_true rfl, fun r hr =>
    ⟨pa, ys, .ref r, rfl, rfl, by rw [upd_ne (ne_of_none hpa hr)]; exact hpa, sz_lt (by omega), q r hr⟩⟩
end
/-! ### what its methods promise -/
def spRoom (K : PySem.W.Frag) (C : Addr) : Sp := fun vs H Q _ => ∃ (S : List Addr) (B : Hp) (p A : Addr) (n : Int) (ts : List Tie) (am : List Int) (i : Nat) (x : Int), vs = [.ref p, .int (i : Int), .int x] ∧ Wd S B H ∧ FlowObj K C p A n ts B ∧ B A = some (.lst (am.map V.int)) ∧ i < ts.length ∧ am.length = ts.length ∧
  ∀ H', Ex H H' → Q (.int (roomF ts am i x)) H'
def spAdd (K : PySem.W.Frag) (C : Addr) : Sp := fun vs H Q _ => ∃ (S : List Addr) (B : Hp) (p A : Addr) (n : Int) (ts : List Tie) (am : List Int) (i : Nat) (x m : Int), vs = [.ref p, .int (i : Int), .int x, .int m] ∧ Wd S B H ∧ A ∈ S ∧ FlowObj K C p A n ts B ∧ H A = some (.lst (am.map V.int)) ∧ i < ts.length ∧ am.length = ts.length ∧
  ∀ H', Xs [A] H H' → H' A = some (.lst ((addF ts am i x m).map V.int)) → Q .non H'
def oD : Option (Nat × Int) → PyData
  | none => .none
  | some e => eN e
def CameAt (K : PySem.W.Frag) (B : Hp) (kvs : List (Key × V)) (c : Came) : Prop := kvs.map (·.1) = (keysC c).map Sum.inl ∧ DqAll K B (kvs.map (·.2)) (c.map fun e => oD e.2)
def spWaysOn (K : PySem.W.Frag) (C : Addr) : Sp := fun vs H Q _ => ∃ (S : List Addr) (B : Hp) (p A : Addr) (n : Int) (ts : List Tie) (am : List Int) (t : Bool) (src : List Int) (v : V), vs = [.ref p, v] ∧ Wd S B H ∧ FlowObj K C p A n ts B ∧ B A = some (.lst (am.map V.int)) ∧ am.length = ts.length ∧ TiesIn n ts ∧ n ≤ 60 ∧ ts.length ≤ 1000 ∧
  Dq K B v (seqD t (src.map .int)) ∧ src.Nodup ∧ (∀ s ∈ src, 0 ≤ s ∧ s < n) ∧ ∀ d B' H' kvs, H d = none → Ex H H' → Ex B B' → Wd (d :: S) B' H' → H' d = some (.dK kvs) → CameAt K B' kvs (bfs0 n ts src am) → Q (.ref d) H'
def spWaysBack (K : PySem.W.Frag) (C : Addr) : Sp := fun vs H Q _ => ∃ (S : List Addr) (B : Hp) (p A : Addr) (n : Int) (ts : List Tie) (am : List Int) (t : Bool) (snk : List Int) (v : V), vs = [.ref p, v] ∧ Wd S B H ∧ FlowObj K C p A n ts B ∧ B A = some (.lst (am.map V.int)) ∧ am.length = ts.length ∧ TiesIn n ts ∧ n ≤ 60 ∧ ts.length ≤ 1000 ∧
  Dq K B v (seqD t (snk.map .int)) ∧ snk.Nodup ∧ (∀ s ∈ snk, 0 ≤ s ∧ s < n) ∧ ∀ a H' L, H a = none → Ex H H' → BackTo n ts am snk L → L.Pairwise (· < ·) → H' a = some (.lst (L.map V.int)) → Q (.ref a) H'
def spBring (K : PySem.W.Frag) (C : Addr) : Sp := fun vs H Q _ => ∃ (S : List Addr) (B : Hp) (p A d : Addr) (n : Int) (ts : List Tie) (src am : List Int) (kvs : List (Key × V)) (c : Came) (q' : Int), vs = [.ref p, .ref d, .int q'] ∧ Wd S B H ∧ A ∈ S ∧ FlowObj K C p A n ts B ∧ H A = some (.lst (am.map V.int)) ∧ am.length = ts.length ∧ TiesIn n ts ∧
  n ≤ 60 ∧ ts.length ≤ 1000 ∧ B d = some (.dK kvs) ∧ CameAt K B kvs c ∧ CameOk n ts am src c ∧ q' ∈ keysC c ∧ wayTo c q' ≠ [] ∧ ∀ H', Xs [A] H H' → H' A = some (.lst ((moreF ts am c q').map V.int)) → Q .non H'
def spFill (K : PySem.W.Frag) (C : Addr) : Sp := fun vs H Q _ => ∃ (S : List Addr) (B : Hp) (p A : Addr) (n : Int) (ts : List Tie) (am am' : List Int) (t1 t2 : Bool) (src snk : List Int) (v1 v2 : V), vs = [.ref p, v1, v2] ∧ Wd (A :: S) B H ∧ A ∉ S ∧ FlowObj K C p A n ts B ∧ H A = some (.lst (am.map V.int)) ∧ TiesIn n ts ∧ n ≤ 60 ∧ ts.length ≤ 1000 ∧
  Dq K B v1 (seqD t1 (src.map .int)) ∧ Dq K B v2 (seqD t2 (snk.map .int)) ∧ Ends2 n src snk ∧ Feas ts am ∧ Kept ts am src snk ∧ Fill n ts src snk am am' ∧
  ∀ L H', H L = none → Xs [A] H H' → H' A = some (.lst (am'.map V.int)) → L ≠ A → H' L = some (.lst ((srt (keysC (bfs0 n ts src am'))).map V.int)) → Q (.ref L) H'
def spFlowInit (K : PySem.W.Frag) (C : Addr) : Sp := fun vs H Q _ => ∃ (S : List Addr) (B : Hp) (p dx : Addr) (n : Int) (ts : List Tie) (v : V), vs = [.ref p, v] ∧ Wd (p :: S) B H ∧ p ∉ S ∧ H p = some (.ins C dx []) ∧ Dq K B v (webD n ts) ∧ 0 ≤ n ∧ n ≤ 1000 ∧ TiesIn n ts ∧ ts.length ≤ 1000 ∧
  ∀ A B' H', H A = none → Xs [p] H H' → Ex B B' → Wd (A :: S) B' H' → FlowObj K C p A n ts B' → H' A = some (.lst ((noAm ts).map V.int)) → Q .non H'
/-! ### dicts of places as they are made, put to, looked up -/
theorem put_new {κ : Type} [DecidableEq κ] {kvs : List (κ × V)} {k : κ} {v : V} (h : ¬ k ∈ kvs.map (·.1)) : putK kvs k v = kvs ++ [(k, v)] := by
  unfold putK
  rw [if_neg]
  intro q
  obtain ⟨x, hx, e⟩ := List.any_eq_true.mp q
  exact h (List.mem_map.mpr ⟨x, hx, of_decide_eq_true e⟩)
theorem merge_new : ∀ (kvs acc : List (Key × V)), ((acc ++ kvs).map (·.1)).Nodup → mergeK acc kvs = acc ++ kvs
  | [], acc, _ => by
    show acc = acc ++ []
    rw [List.append_nil]
  | p :: r, acc, h => by
    have e : putK acc p.1 p.2 = acc ++ [p] := put_new fun z => by
      rw [List.map_append, List.map_cons, List.nodup_append] at h
      exact h.2.2 p.1 z p.1 List.mem_cons_self rfl
    show mergeK (putK acc p.1 p.2) r = _
    rw [e, merge_new r (acc ++ [p]) (by rw [List.append_assoc]; exact h), List.append_assoc]
    rfl
section
variable {K : PySem.W.Frag} {σ : L2.St} {B B' H : Hp} {S : List Addr} {te ta : TE}
theorem pairs_vals {f : Int → PyData} : ∀ {ks : List Int} {xs : List V}, DqAll K B xs (ks.map fun k => .tuple [.int k, f k]) →
    ∃ (ps : List Addr) (kvs : List (Key × V)), xs = ps.map V.ref ∧ Paired (fun p kv => SqT K B p [kV kv.1, kv.2]) ps kvs ∧ kvs.map (·.1) = ks.map Sum.inl ∧ DqAll K B (kvs.map (·.2)) (ks.map f)
  | [], _, h => by cases h; exact ⟨[], [], rfl, .nil, rfl, .nil⟩
  | k :: ks, _, h => by
    cases h with
    | cons h1 h2 =>
    obtain ⟨ps, kvs, rfl, h3, h4, h5⟩ := pairs_vals h2
    cases h1 with
    | @tup a ys _ hs hd =>
    obtain ⟨y1, y2, rfl, q1, q2⟩ := two_args hd
    cases q1
    exact ⟨a :: ps, (.inl k, y2) :: kvs, rfl, .cons (st_of hs) h3, by rw [List.map_cons, List.map_cons, h4], .cons q2 h5⟩
theorem dnew {ks : List Int} {f : Int → PyData} (hn : ks.Nodup) (h : EvD K ta σ B (.list (ks.map fun k => .tuple [.int k, f k]))) (w : Wd S B H) {Q : VK}
    (q : ∀ d B' H' kvs, H d = none → Ex H H' → Ex B B' → Wd S B' H' → H' d = none → kvs.map (·.1) = ks.map Sum.inl → DqAll K B' (kvs.map (·.2)) (ks.map f) → Q (.ref d) (upd H' d (.dK kvs))) : tCB (rDictP K) (tCons ta tNil) σ H Q :=
  (ea_cons h ea_nil).bind w fun vs B1 H1 e1 eB1 w1 rs => by
    cases rs with
    | cons r1 r2 =>
    cases r2
    cases r1 with
    | @lst a xs _ hs hd =>
    obtain ⟨ps, kvs, rfl, hp, hk, hv⟩ := pairs_vals hd
    refine ⟨a, ps, kvs, rfl, ex_l w1.ex hs, paired_mono w1.ex hp, fun d hd => ?_⟩
    rw [merge_new kvs [] (by
      rw [List.nil_append, hk]
      exact List.pairwise_map.mpr (hn.imp fun {a b} h e => h (Sum.inl.inj e))), List.nil_append]
    exact q d B1 H1 kvs (fresh_back e1 hd) e1 eB1 w1 hd hk hv
theorem CameAt.mono {kvs : List (Key × V)} {c : Came} (h : CameAt K B kvs c) (e : Ex B B') : CameAt K B' kvs c := ⟨h.1, DqAll.mono e h.2⟩
theorem CameAt.has {kvs : List (Key × V)} {c : Came} (h : CameAt K B kvs c) (q : Int) : (valV kvs (.inl q)).isSome = decide (q ∈ keysC c) := by
  rw [Bool.eq_iff_iff, isSome_iff, h.1, List.mem_map, decide_eq_true_iff]
  exact ⟨fun ⟨x, hx, e⟩ => Sum.inl.inj e ▸ hx, fun hq => ⟨q, hq, rfl⟩⟩
theorem CameAt.put {kvs : List (Key × V)} {c : Came} (h : CameAt K B kvs c) {q : Int} (hq : q ∉ keysC c) {v : V} {e : Nat × Int} (hv : Dq K B v (eN e)) : CameAt K B (putK kvs (.inl q) v) (c ++ [(q, some e)]) := by
  rw [put_new (fun z => by
    rw [h.1] at z
    obtain ⟨x, hx, e⟩ := List.mem_map.mp z
    exact hq (Sum.inl.inj e ▸ hx))]
  unfold keysC CameAt at *
  constructor
  · rw [List.map_append, h.1]
    unfold keysC
    rw [List.map_append, List.map_append]
    rfl
  · rw [List.map_append, List.map_append]
    exact DqAll.snoc h.2 hv
theorem CameAt.few {kvs : List (Key × V)} {c : Came} (h : CameAt K B kvs c) : kvs.length = c.length := by
  have := congrArg List.length h.1
  unfold keysC at this
  simpa using this
theorem came_get : ∀ {kvs : List (Key × V)} {c : Came}, CameAt K B kvs c → ∀ {q : Int}, q ∈ keysC c → ∃ v, valV kvs (.inl q) = some v ∧ Dq K B v (oD (lookC c q))
  | [], [], _, q, hq => by cases hq
  | [], _ :: _, h, _, _ => by
    have := h.few
    simp at this
  | _ :: _, [], h, _, _ => by
    have := h.few
    simp at this
  | kv :: kvs, x :: c, h, q, hq => by
    obtain ⟨h1, h2⟩ := h
    unfold keysC at h1 hq
    rw [List.map_cons, List.map_cons, List.map_cons, List.cons.injEq] at h1
    rw [List.map_cons, List.map_cons] at h2
    cases h2 with
    | cons h3 h4 =>
    by_cases e : x.1 = q
    · refine ⟨kv.2, valV_pos (by rw [h1.1, e]), ?_⟩
      unfold lookC
      rw [List.find?_cons_of_pos (by simpa using e)]
      exact h3
    · rw [List.map_cons] at hq
      have hq2 : q ∈ keysC c := (List.mem_cons.mp hq).elim (fun z => absurd z.symm e) id
      obtain ⟨v, g1, g2⟩ := came_get (kvs := kvs) (c := c) ⟨h1.2, h4⟩ hq2
      refine ⟨v, by rw [valV_neg (by rw [h1.1]; exact fun z => e (Sum.inl.inj z))]; exact g1, ?_⟩
      unfold lookC at g2 ⊢
      rw [List.find?_cons_of_neg (by simpa using e)]
      exact g2
/-- what was told stays told when lists come to be one's own -/
theorem st_c {D : Ends} {i : Nat} {v : V} (h : D.nx (σ.set i (some v)) H) : tAsg (tC v) (gName i) D σ H := h
theorem bfs_end {ts : List Tie} {am : List Int} {c : Came} {at' : Nat} (h : c.length ≤ at') : ∀ k, bfs ts am k c at' = c
  | 0 => rfl
  | k + 1 => by
    unfold bfs
    rw [List.getElem?_eq_none_iff.mpr h]
theorem bfs_step {ts : List Tie} {am : List Int} {c : Came} {at' k : Nat} {x : Int × Option (Nat × Int)} (h : c[at']? = some x) : bfs ts am (k + 1) c at' = bfs ts am k ((nbN ts x.1).foldl (grow ts am x.1) c) (at' + 1) := by
  show (match c[at']? with | none => c | some x => bfs ts am k ((nbN ts x.1).foldl (grow ts am x.1) c) (at' + 1)) = _
  rw [h]
theorem opt_move {T : List Addr} {v : V} {o : Option (Nat × Int)} (h : Dq K B v (oD o)) (e : Ex B H) (hT : ∀ a ∈ T, B a = none ∨ ∃ xs, B a = some (.lst xs)) : Dq K (mi H T) v (oD o) := by
  cases o with
  | none =>
    cases h
    exact .non
  | some s =>
    cases h with
    | @tup a xs _ h1 h2 =>
      have hx := DqAll.ints_eq (ns := [(s.1 : Int), s.2]) h2
      subst hx
      have hm : a ∉ T := fun m => by rcases hT a m with z | ⟨ys, z⟩ <;> rw [z] at h1 <;> cases h1
      exact .tup (by rw [mi_at hm]; exact e _ _ h1) DqAll.ints
theorem came_move {T : List Addr} : ∀ {vs : List V} {c : Came}, DqAll K B vs (c.map fun e => oD e.2) → Ex B H → (∀ a ∈ T, B a = none ∨ ∃ xs, B a = some (.lst xs)) → DqAll K (mi H T) vs (c.map fun e => oD e.2)
  | [], [], _, _, _ => .nil
  | [], _ :: _, h, _, _ => by cases h
  | _ :: _, [], h, _, _ => by cases h
  | v :: vs, x :: c, h, e, hT => by
    cases h with
    | cons h1 h2 => exact .cons (opt_move h1 e hT) (came_move h2 e hT)
end
end Pw

/-! ## PwBack -/
namespace Pw
open PySem L2 Evl

/-! ### looks backwards, on the way -/
structure BackW (n : Int) (ts : List Tie) (am snk ks ws : List Int) : Prop where
  nd : ks.Nodup
  rng : ∀ p ∈ ks, 0 ≤ p ∧ p < n
  all : ∀ s ∈ snk, s ∈ ks
  sub : ∀ x ∈ ws, x ∈ ks
  least : ∀ Y : List Int, (∀ s ∈ snk, s ∈ Y) → (∀ q ∈ Y, ∀ p, Res ts am p q → p ∈ Y) → ∀ p ∈ ks, p ∈ Y
  back : ∀ q ∈ ks, q ∉ ws → ∀ p, Res ts am p q → p ∈ ks
structure BackI (n : Int) (ts : List Tie) (am snk : List Int) (here : Int) (done : List (Nat × Int)) (ks ws : List Int) : Prop where
  nd : ks.Nodup
  rng : ∀ p ∈ ks, 0 ≤ p ∧ p < n
  all : ∀ s ∈ snk, s ∈ ks
  sub : ∀ x ∈ ws, x ∈ ks
  least : ∀ Y : List Int, (∀ s ∈ snk, s ∈ Y) → (∀ q ∈ Y, ∀ p, Res ts am p q → p ∈ Y) → ∀ p ∈ ks, p ∈ Y
  back : ∀ q ∈ ks, q ∉ ws → q ≠ here → ∀ p, Res ts am p q → p ∈ ks
  at_ : here ∈ ks
  seen : ∀ e ∈ done, 0 < roomF ts am e.1 e.2 → e.2 ∈ ks
section
variable {n : Int} {ts : List Tie} {am snk ks ws : List Int} {here : Int} {done : List (Nat × Int)}
theorem BackW.pop {x : Int} (h : BackW n ts am snk ks (ws ++ [x])) : BackI n ts am snk x [] ks ws :=
  ⟨h.nd, h.rng, h.all, fun y hy => h.sub y (List.mem_append_left _ hy), h.least, fun q hq hw hx p hr => h.back q hq (fun m => (List.mem_append.mp m).elim hw fun z => hx (List.mem_singleton.mp z)) p hr, h.sub x (List.mem_append_right _ (List.mem_singleton.mpr rfl)), fun e he => by cases he⟩
theorem BackI.old {e : Nat × Int} (h : BackI n ts am snk here done ks ws) (he : 0 < roomF ts am e.1 e.2 → e.2 ∈ ks) : BackI n ts am snk here (done ++ [e]) ks ws :=
  ⟨h.nd, h.rng, h.all, h.sub, h.least, h.back, h.at_, fun x hx => (List.mem_append.mp hx).elim (h.seen x) fun z => by rw [List.mem_singleton.mp z]; exact he⟩
theorem BackI.new (hin : TiesIn n ts) {e : Nat × Int} (h : BackI n ts am snk here done ks ws) (hl : Link ts e.1 here e.2) (hr : 0 < roomF ts am e.1 e.2) (hq : e.2 ∉ ks) : BackI n ts am snk here (done ++ [e]) (ks ++ [e.2]) (ws ++ [e.2]) := by
  refine ⟨?_, fun p hp => ?_, fun s hs => List.mem_append_left _ (h.all s hs), fun x hx => ?_, fun Y h1 h2 p hp => ?_, fun q hq' hw hx p hres => ?_, List.mem_append_left _ h.at_, fun x hx hrr => ?_⟩
  · rw [List.nodup_append]
    exact ⟨h.nd, by simp, fun a ha b hb z => hq (by rw [← List.mem_singleton.mp hb, ← z]; exact ha)⟩
  · rcases List.mem_append.mp hp with hp | hp
    · exact h.rng p hp
    · rw [List.mem_singleton.mp hp]
      exact (hl.rng hin).2.1
  · rcases List.mem_append.mp hx with hx | hx
    · exact List.mem_append_left _ (h.sub x hx)
    · exact List.mem_append_right _ hx
  · rcases List.mem_append.mp hp with hp | hp
    · exact h.least Y h1 h2 p hp
    · rw [List.mem_singleton.mp hp]
      exact h2 here (h.least Y h1 h2 here h.at_) e.2 ⟨e.1, hl.flip, hr⟩
  · rcases List.mem_append.mp hq' with hq' | hq'
    · exact List.mem_append_left _ (h.back q hq' (fun z => hw (List.mem_append_left _ z)) hx p hres)
    · exact absurd (List.mem_append_right _ hq') hw
  · rcases List.mem_append.mp hx with hx | hx
    · exact List.mem_append_left _ (h.seen x hx hrr)
    · rw [List.mem_singleton.mp hx]
      exact List.mem_append_right _ (List.mem_singleton.mpr rfl)
theorem BackI.end_ (h : BackI n ts am snk here (nbN ts here) ks ws) : BackW n ts am snk ks ws :=
  ⟨h.nd, h.rng, h.all, h.sub, h.least, fun q hq hw p hr => by
    by_cases z : q = here
    · subst z
      obtain ⟨i, hl, hrr⟩ := hr
      exact h.seen (i, p) (nbN_mem.mpr hl.flip) hrr
    · exact h.back q hq hw z p hr⟩
theorem BackW.fin (h : BackW n ts am snk ks []) {ys : List Int} (hp : ys.Perm ks) (hs : ys.Pairwise (· ≤ ·)) : BackTo n ts am snk ys ∧ ys.Pairwise (· < ·) :=
  ⟨⟨hp.nodup_iff.mpr h.nd, fun p hq => h.rng p (hp.mem_iff.mp hq), fun s hs' => hp.mem_iff.mpr (h.all s hs'), fun q hq p hr => hp.mem_iff.mpr (h.back q (hp.mem_iff.mp hq) (fun z => by cases z) p hr), fun Y h1 h2 p hq => h.least Y h1 h2 p (hp.mem_iff.mp hq)⟩, sorted_of hp hs h.nd⟩
end
section
variable {K : PySem.W.Frag} {σ : L2.St} {B H : Hp} {S : List Addr} {d : Addr} {tt : TT} {te : TE}
theorem wk_keys {i : Nat} {o : Obj} {kvs : List (Key × V)} {ks : List Int} (hi : σ[i]? = some (some (.ref d))) (hd : B d = some (.frz o (.dK kvs))) (hk : kvs.map (·.1) = ks.map Sum.inl) : WkD K (iKeys (tVar i)) σ B (ks.map .int) := fun S H w R k => by
  have hl : (ks.map PyData.int).length = kvs.length := by
    have := congrArg List.length hk
    simpa using this.symm
  refine ⟨_, hi, d, o, rfl, .inl ⟨kvs, w.ex _ _ hd, k _ B H (Ex.refl H) (Ex.refl B) w (fun j H' e hj => ⟨e _ _ hd, by omega⟩) (fun j H' e hj => ⟨e _ _ hd, by omega⟩) fun j S' B' H' x H'' eB w' hj y => ?_⟩⟩
  obtain ⟨rfl, kk, v, h1, rfl⟩ := y
  have h2 : (ks.map Sum.inl)[j]? = some kk := by rw [← hk, List.getElem?_map, h1]; rfl
  rw [List.getElem?_map] at h2
  obtain ⟨z, h3, rfl⟩ := Option.map_eq_some_iff.mp h2
  exact ⟨B', Ex.refl _, Ex.refl _, w', .int z, by rw [List.getElem?_map, h3]; rfl, .int z⟩
/-- [x for x in d if t], d a dict of one's own -/
theorem lock_core {i j : Nat} {od : Obj} {vs : List Nat} {kvs : List (Key × V)} {ks : List Int} (f : Int → Bool) (w : Wd (d :: S) B H) (hdS : d ∉ S) (hd : H d = some (.dK kvs)) (hk : kvs.map (·.1) = ks.map Sum.inl) (hl : ks.length ≤ 40000) (hi : σ[i]? = some (some (.ref d)))
    (turn : ∀ B2, Ex B B2 → ∀ a ∈ ks, TurnLc K (gName j) tt te σ vs B2 (.int a) (f a) (.int a)) {Q : VK}
    (q : ∀ a B' H', H a = none → Xs [d] H H' → H' d = some (.dK kvs) → Ex B B' → Wd (a :: d :: S) B' H' → a ≠ d → H' a = some (.lst ((ks.filter f).map V.int)) → Q (.ref a) H') : tLc (iKeys (tVar i)) (gName j) tt te vs σ (upd H d (.frz od (.dK kvs))) fun v H' => H' d = some (.frz od (.dK kvs)) ∧ Q v (upd H' d (.dK kvs)) := by
  have w1 := w.put (p := d) (o := .frz od (.dK kvs)) List.mem_cons_self
  have hd1 : upd H d (.frz od (.dK kvs)) d = some (.frz od (.dK kvs)) := upd_same
  have w2 := w1.give hd1 hdS
  have eB2 : Ex B (upd B d (.frz od (.dK kvs))) := w1.giveE
  refine lc_ownP (K := K) ks PyData.int f PyData.int (wk_keys hi upd_same hk) hl (turn _ eB2) w2 fun a xs B3 H3 ha e3 eB3 w3 hA hx => ?_
  have hxs := DqAll.ints_eq hx
  subst hxs
  have hd3 := e3 _ _ hd1
  have nad : a ≠ d := fun z => by rw [z, hd1] at ha; cases ha
  refine ⟨hd3, ?_⟩
  have haH : H a = none := by
    rw [upd_ne nad] at ha
    exact ha
  have wN : Wd (a :: d :: S) (mi (upd H3 d (.dK kvs)) (a :: d :: S)) (upd H3 d (.dK kvs)) := ⟨mi_ex, fun s m => mi_no m, fun s m => by
    by_cases z : s = d
    · rw [z]; exact ⟨_, upd_same⟩
    · rw [upd_ne z]
      refine w3.at_ s ?_
      rcases List.mem_cons.mp m with rfl | m
      · exact List.mem_cons_self
      · rcases List.mem_cons.mp m with m | m
        · exact absurd m z
        · exact List.mem_cons_of_mem _ m⟩
  refine q a _ _ haH (fun b o hb ho => ?_) upd_same (ex_mi (fun b o ho => ?_) fun s m => ?_) wN nad (by rw [upd_ne nad]; exact hA)
  · have hbd : b ≠ d := fun z => hb (List.mem_singleton.mpr z)
    rw [upd_ne hbd]
    exact e3 _ _ (by rw [upd_ne hbd]; exact ho)
  · have hbd : b ≠ d := fun z => by rw [z, w.no d List.mem_cons_self] at ho; cases ho
    rw [upd_ne hbd]
    exact w3.ex _ _ (eB3 _ _ (eB2 _ _ ho))
  · rcases List.mem_cons.mp m with rfl | m
    · exact fresh_back (eB2.trans eB3) (w3.no s List.mem_cons_self)
    · exact w.no s m
theorem lock_set {i j r : Nat} {D : Ends} {vs : List Nat} {kvs : List (Key × V)} {ks : List Int} (f : Int → Bool) (w : Wd (d :: S) B H) (hdS : d ∉ S) (hd : H d = some (.dK kvs)) (hk : kvs.map (·.1) = ks.map Sum.inl) (hl : ks.length ≤ 40000) (hi : σ[i]? = some (some (.ref d)))
    (turn : ∀ B2, Ex B B2 → ∀ a ∈ ks, TurnLc K (gName j) tt te σ vs B2 (.int a) (f a) (.int a))
    (q : ∀ a B' H', H a = none → Xs [d] H H' → H' d = some (.dK kvs) → Ex B B' → Wd (a :: d :: S) B' H' → a ≠ d → H' a = some (.lst ((ks.filter f).map V.int)) → D.nx (σ.set r (some (.ref a))) H') : tLock (tAsg (tLc (iKeys (tVar i)) (gName j) tt te vs) (gName r)) D σ H :=
  ⟨d, .dK kvs, hd, trivial, fun od => lock_core (K := K) (Q := fun v H' => D.nx (σ.set r (some v)) H') f w hdS hd hk hl hi turn q⟩
end
theorem Wd.xsA {S : List Addr} {B H H' : Hp} {A : Addr} (w : Wd S B H) (hA : A ∈ S) (x : Xs [A] H H') (h : ∃ o, H' A = some o) : Wd S B H' :=
  ⟨fun a o e => x a o (fun z => by rw [List.mem_singleton.mp z, w.no A hA] at e; cases e) (w.ex a o e), w.no, fun s m => by
    by_cases z : s = A
    · rw [z]; exact h
    · obtain ⟨o, ho⟩ := w.at_ s m
      exact ⟨o, x s o (fun y => z (List.mem_singleton.mp y)) ho⟩⟩
theorem wd_all (H : Hp) : Wd [] H H := ⟨Ex.refl H, (fun s m => by cases m), fun s m => by cases m⟩
section
variable {K : PySem.W.Frag} {σ : L2.St} {B H : Hp} {S : List Addr} {te : TE}
theorem ev_minL {ns : List Int} (h : EvD K te σ B (.list (ns.map .int))) (hn : ns ≠ []) : EvD K (tCB (rMin K) (tCons te tNil)) σ B (.int (leastL ns)) :=
  ev_cb (ea_cons h ea_nil) (fun vs B' H' Q hv e q => by
    cases hv with
    | cons g1 g2 =>
      cases g2
      cases g1 with
      | lst hs hd =>
        have e2 := DqAll.ints_eq hd
        subst e2
        refine ⟨_, ns, rfl, ex_l e hs, List.length_pos_iff.mpr hn, fun m' i1 i2 => ?_⟩
        obtain ⟨l1, l2⟩ := leastL_ok hn
        rw [show m' = leastL ns from Int.le_antisymm (i2 _ l1) (l2 _ i1)]
        exact q _ (.int _)) stays_dp
/-- a look from the sources, the amounts one's own -/
theorem ev_ways {C p A : Addr} {n : Int} {ts : List Tie} {am src : List Int} {t : Bool} {v : V} {i j : Nat} (w : Wd (A :: S) B H) (hAS : A ∉ S) (hf : FlowObj K C p A n ts B) (hA : H A = some (.lst (am.map V.int))) (hal : am.length = ts.length) (hin : TiesIn n ts) (hn : n ≤ 60) (htl : ts.length ≤ 1000)
    (hv : Dq K B v (seqD t (src.map .int))) (hnd : src.Nodup) (hrng : ∀ s ∈ src, 0 ≤ s ∧ s < n) (hi : σ[i]? = some (some (.ref p))) (hj : σ[j]? = some (some v)) {Q : VK}
    (q : ∀ d B' H' kvs, H d = none → Ex H H' → Ex B B' → Wd (d :: A :: S) B' H' → H' A = some (.lst (am.map V.int)) → H' d = some (.dK kvs) → CameAt K B' kvs (bfs0 n ts src am) → Q (.ref d) H') : tMeth C "ways_on" (spWaysOn K C) [] E0 (tVar i) (tCons (tVar j) tNil) σ H Q := by
  obtain ⟨dx, fs, tv, nr, g1, g2, g3, g4, g5, g6, g7⟩ := id hf
  have wg := w.give hA hAS
  have eg : Ex B (upd B A (.lst (am.map V.int))) := w.giveE
  refine ⟨_, hi, p, dx, fs, rfl, w.ex _ _ g1, g7 _ (by decide +kernel) (by decide +kernel) (by decide +kernel), _, hj, S, _, p, A, n, ts, am, t, src, v, rfl, wg, hf.mono eg, upd_same, hal, hin, hn, htl, Dq.mono eg hv, hnd, hrng, fun d B2 H2 kvs hd e2 eB2 w2 hd2 hC => ?_⟩
  have hA2 := eB2 _ _ (upd_same (H := B) (a := A) (o := .lst (am.map V.int)))
  have hAH := e2 _ _ hA
  have wN : Wd (d :: A :: S) (mi H2 (d :: A :: S)) H2 := ⟨mi_ex, fun s m => mi_no m, fun s m => by
    rcases List.mem_cons.mp m with rfl | m
    · exact ⟨_, hd2⟩
    · rcases List.mem_cons.mp m with rfl | m
      · exact ⟨_, hAH⟩
      · exact w2.at_ s (List.mem_cons_of_mem _ m)⟩
  refine q d _ H2 kvs hd e2 (ex_mi (fun a o h => w2.ex _ _ (eB2 _ _ (eg _ _ h))) fun s m => ?_) wN hAH hd2 ⟨hC.1, came_move hC.2 w2.ex fun a m => ?_⟩
  · rcases List.mem_cons.mp m with rfl | m
    · exact fresh_back w.ex hd
    · exact w.no s m
  · rcases List.mem_cons.mp m with rfl | m
    · exact .inl (w2.no a List.mem_cons_self)
    · rcases List.mem_cons.mp m with rfl | m
      · exact .inr ⟨_, hA2⟩
      · exact .inl (w2.no a (List.mem_cons_of_mem _ m))
end
noncomputable def backL (n : Int) (ts : List Tie) (am snk : List Int) : List Int := (rngI 0 n.toNat).filter fun p => @decide (∀ Y : List Int, (∀ s ∈ snk, s ∈ Y) → (∀ q ∈ Y, ∀ r, Res ts am r q → r ∈ Y) → p ∈ Y) (Classical.propDecidable _)
theorem backL_mem {n : Int} {ts : List Tie} {am snk : List Int} {p : Int} : p ∈ backL n ts am snk ↔ (0 ≤ p ∧ p < n) ∧ ∀ Y : List Int, (∀ s ∈ snk, s ∈ Y) → (∀ q ∈ Y, ∀ r, Res ts am r q → r ∈ Y) → p ∈ Y := by
  unfold backL
  rw [List.mem_filter, rngI_mem, @decide_eq_true_iff _ (Classical.propDecidable _)]
  constructor
  · exact fun ⟨h1, h2⟩ => ⟨by omega, h2⟩
  · exact fun ⟨h1, h2⟩ => ⟨by omega, h2⟩
theorem backL_ok {n : Int} {ts : List Tie} {am snk : List Int} (hin : TiesIn n ts) (hr : ∀ s ∈ snk, 0 ≤ s ∧ s < n) : BackTo n ts am snk (backL n ts am snk) ∧ (backL n ts am snk).Pairwise (· < ·) :=
  ⟨⟨(rngI_nd _ _).filter _, fun p hp => (backL_mem.mp hp).1, fun s hs => backL_mem.mpr ⟨hr s hs, fun Y h1 _ => h1 s hs⟩, fun q hq p h => backL_mem.mpr ⟨(res_in hin h).1, fun Y h1 h2 => h2 q ((backL_mem.mp hq).2 Y h1 h2) p h⟩, fun Y h1 h2 p hp => (backL_mem.mp hp).2 Y h1 h2⟩, (rngI_lt _ _).filter _⟩
theorem ev_back {K : PySem.W.Frag} {σ : L2.St} {B : Hp} {C p A : Addr} {n : Int} {ts : List Tie} {am snk : List Int} {t : Bool} {v : V} {i j : Nat} (hf : FlowObj K C p A n ts B) (hA : B A = some (.lst (am.map V.int))) (hal : am.length = ts.length) (hin : TiesIn n ts) (hn : n ≤ 60) (htl : ts.length ≤ 1000)
    (hv : Dq K B v (seqD t (snk.map .int))) (hnd : snk.Nodup) (hrng : ∀ s ∈ snk, 0 ≤ s ∧ s < n) (hi : σ[i]? = some (some (.ref p))) (hj : σ[j]? = some (some v)) :
    EvD K (tMeth C "ways_back" (spWaysBack K C) [] E0 (tVar i) (tCons (tVar j) tNil)) σ B (.list ((backL n ts am snk).map .int)) := by
  obtain ⟨dx, fs, tv, nr, g1, g2, g3, g4, g5, g6, g7⟩ := id hf
  refine ev_meth (ev_varV hi) g1 (g7 _ (by decide +kernel) (by decide +kernel) (by decide +kernel)) (ea_cons (ev_var (v := v) hj hv) ea_nil) stays_dp fun S B' H' vs Q eB w rs q => ?_
  cases rs with
  | @cons u _ _ _ r1 r2 =>
  cases r2
  refine ⟨S, B', p, A, n, ts, am, t, snk, u, rfl, w, hf.mono eB, eB _ _ hA, hal, hin, hn, htl, r1, hnd, hrng, fun a H2 L ha e2 hb hs hL => ?_⟩
  have eL : L = backL n ts am snk := sorted_eq hs (backL_ok hin hrng).2 (hb.one (backL_ok hin hrng).1)
  subst eL
  exact q (.ref a) (mi H2 S) H2 e2 (w.stepE e2) (w.step e2) (.lst (sq_of (by rw [mi_at (w.nin ha)]; exact hL)) DqAll.ints)
/-- a world with a list more, made by one who had changed A -/
theorem Wd.more {S : List Addr} {B H H' : Hp} {A L : Addr} (w : Wd S B H) (hA : A ∈ S) (x : Xs [A] H H') (hA' : ∃ o, H' A = some o) (hL : H L = none) (hL' : ∃ o, H' L = some o) : Wd (L :: S) B H' :=
  ⟨(w.xsA hA x hA').ex, fun s m => by
    rcases List.mem_cons.mp m with rfl | m
    · exact w.fresh hL
    · exact w.no s m, fun s m => by
    rcases List.mem_cons.mp m with rfl | m
    · exact hL'
    · exact (w.xsA hA x hA').at_ s m⟩
/-- a new object, its dict -/
theorem Wd.made {S : List Addr} {B H : Hp} {C x dx : Addr} (w : Wd S B H) (hx : H x = none) (hdx : H dx = none) (hne : dx ≠ x) : Wd (x :: S) B (upd (upd H dx (.own x)) x (.ins C dx [])) ∧ x ∉ S ∧ Ex H (upd (upd H dx (.own x)) x (.ins C dx [])) := by
  have hx1 : upd H dx (.own x) x = none := by rw [upd_ne hne.symm]; exact hx
  exact ⟨(w.ext (Ex.new hdx)).own hx1, w.nin hx, (Ex.new hdx).trans (Ex.new hx1)⟩
/-! ### what flow, wide_side promise -/
def spFlow (K : PySem.W.Frag) : Sp := fun vs H Q _ => ∃ (S : List Addr) (B : Hp) (n : Int) (ts : List Tie) (t1 t2 : Bool) (src snk am : List Int), Wd S B H ∧ DqAll K B vs [webD n ts, seqD t1 (src.map .int), seqD t2 (snk.map .int)] ∧ WebOk n ts ∧ n ≤ 60 ∧ Ends2 n src snk ∧ Flowed n ts src snk am ∧
  ∀ Tp A L B' H', H A = none → H L = none → H Tp = none → A ≠ L → Tp ≠ A → Tp ≠ L → Ex H H' → Ex B B' → Wd (A :: L :: S) B' H' → B' Tp = some (.tup [.int (cutW ts (srt (keysC (bfs0 n ts src am)))), .ref A, .ref L]) → H' A = some (.lst (am.map V.int)) → H' L = some (.lst ((srt (keysC (bfs0 n ts src am))).map V.int)) → Q (.ref Tp) H'
def spWide (K : PySem.W.Frag) : Sp := fun vs H Q _ => ∃ (S : List Addr) (B : Hp) (n : Int) (ts : List Tie) (t1 t2 : Bool) (src snk am : List Int), Wd S B H ∧ DqAll K B vs [webD n ts, seqD t1 (src.map .int), seqD t2 (snk.map .int)] ∧ WebOk n ts ∧ n ≤ 60 ∧ Ends2 n src snk ∧ Flowed n ts src snk am ∧
  ∀ a H', H a = none → Ex H H' → H' a = some (.lst ((wideL n (backL n ts am snk)).map V.int)) → Q (.ref a) H'
end Pw

/-! ## PwConv -/
namespace Pw
open PySem L2 Evl
section
variable {K : PySem.W.Frag} {σ : L2.St} {B : Hp} {ta tb : TE}
theorem ev_tupRg {n : Int} (h : EvD K ta σ B (.int n)) (hn : 0 ≤ n ∧ n ≤ 100000) : EvD K (tTupRg (tRg1 ta)) σ B (.tuple ((rngI 0 n.toNat).map .int)) :=
  evR_of (fun S H w Q q => h.bind w fun x B1 H1 e1 eB1 w1 rx => by
    cases rx
    refine ⟨n, rfl, RgOk.of_le (by omega) (by omega) (by omega) (by omega), fun p hp => ?_⟩
    have e : rgV 0 n = (rngI 0 n.toNat).map V.int := by
      unfold rgV rngI
      rw [List.map_map, Int.sub_zero]
      rfl
    rw [e]
    exact q (.ref p) _ _ (e1.trans (Ex.new hp)) (eB1.trans (w1.newE (o := .tup ((rngI 0 n.toNat).map V.int)) hp)) (w1.new hp) (.tup upd_same DqAll.ints)) stays_dp
theorem flat_rep (x : V) : ∀ n : Nat, (List.replicate n [x]).flatten = List.replicate n x
  | 0 => rfl
  | n + 1 => by rw [List.replicate_succ, List.flatten_cons, flat_rep x n, List.replicate_succ]; rfl
theorem ev_rep {k n : Int} (ha : EvD K ta σ B (.tuple [.int k])) (hb : EvD K tb σ B (.int n)) (hn : 1 ≤ n ∧ n ≤ 1000) : EvD K (tOp (fun x y H Q => rRepT1 K x y H Q ∨ rRepT K x y H Q) ta tb) σ B (.tuple ((List.replicate n.toNat k).map .int)) :=
  evR_of (fun S H w Q q => ha.bind w fun x B1 H1 e1 eB1 w1 rx => (hb.mono eB1).bind w1 fun y B2 H2 e2 eB2 w2 ry => by
    cases ry
    cases rx with
    | @tup a xs _ hs hd =>
    have ex := DqAll.ints_eq (ns := [k]) hd
    subst ex
    by_cases h1 : n = 1
    · subst h1
      refine .inl ⟨a, _, rfl, rfl, st_of ((eB2.trans w2.ex) _ _ hs), q (.ref a) B2 H2 (e1.trans e2) (eB1.trans eB2) w2 (.tup (eB2 _ _ hs) (.cons (.int k) .nil))⟩
    · refine .inr ⟨a, n, _, rfl, rfl, st_of ((eB2.trans w2.ex) _ _ hs), List.cons_ne_nil _ _, by omega, by omega, by show 1 ≤ 1000; decide, fun p hp => ?_⟩
      have e : (List.replicate n.toNat ([k].map V.int)).flatten = (List.replicate n.toNat k).map V.int := by
        rw [List.map_replicate]
        exact flat_rep (V.int k) n.toNat
      rw [e]
      exact q (.ref p) _ _ ((e1.trans e2).trans (Ex.new hp)) ((eB1.trans eB2).trans (w2.newE (o := .tup ((List.replicate n.toNat k).map V.int)) hp)) (w2.new hp) (.tup upd_same DqAll.ints)) stays_dp
end
end Pw

/-! ## PwSides -/
namespace Pw
open PySem PySem.Spec PyProof.Rows L2 Evl

/-! ### xs + ys, lists handed in -/
def rCatQ (K : PySem.W.Frag) : R2 := fun x y H Q => ∃ (a b : Addr) (xs ys : List V), x = .ref a ∧ y = .ref b ∧ SqL K H a xs ∧ SqL K H b ys ∧ xs.length + ys.length ≤ sizeLine ∧ ∀ p, H p = none → Q (.ref p) (upd H p (.lst (xs ++ ys)))
theorem op_catQ {X : Cx} : OpR X (binaryOp .Add) (rCatQ X.K) := by
  intro pins s σ H x y v u Q I rx ry h
  obtain ⟨a, b, xs, ys, rfl, rfl, ha, hb, hz, q⟩ := h
  cases rx
  cases ry
  obtain ⟨its, r, pl, h1⟩ := I.list ha
  obtain ⟨its2, r2, pl2, h2⟩ := I.list hb
  obtain ⟨⟨c1, d1, t1, l1⟩, o1, e1, n1, f1⟩ := pl.isList
  obtain ⟨⟨c2, d2, t2, l2⟩, o2, e2, n2, f2⟩ := pl2.isList
  simp only at e1 f1 e2 f2
  subst e1 f1 e2 f2
  have hl := r.length
  have hl2 := r2.length
  refine PySem.concat_meets ⟨_, o1, rfl⟩ ⟨_, o2, rfl⟩ noFill_list_add seq_list_add PySem.F.slot_list_add PySem.F.entry_list_add (PySem.F.args_list_add_2 _ _) (list_addW a b its.toArray its2.toArray n1 n2 d1 d2 l1 l2 (by rw [List.size_toArray, List.size_toArray]; omega)) ⟨o1, o2, ?_⟩
  have ea : its.toArray ++ its2.toArray = (its ++ its2).toArray := by simp
  rw [ea]
  exact ⟨.ref s.heap.objs.size, _, I.lnew (t' := s.toks) (r.append r2) (by rw [List.length_append]; omega), rfl, q _ I.fresh⟩
section
variable {K : PySem.W.Frag} {σ : L2.St} {B H : Hp} {S : List Addr} {ta tb : TE} {ds es : List PyData}
theorem ev_catQ (ha : EvD K ta σ B (.list ds)) (hb : EvD K tb σ B (.list es)) (hl : ds.length + es.length ≤ 100000) : EvD K (tOp (rCatQ K) ta tb) σ B (.list (ds ++ es)) :=
  evR_of (fun S H w Q q => ha.bind w fun x B1 H1 e1 eB1 w1 rx => (hb.mono eB1).bind w1 fun y B2 H2 e2 eB2 w2 ry => by
    cases rx with
    | @lst a xs _ ha1 ha2 =>
    cases ry with
    | @lst b ys _ hb1 hb2 =>
    have hxl := DqAll.length ha2
    have hyl := DqAll.length hb2
    exact ⟨a, b, xs, ys, rfl, rfl, ex_l (eB2.trans w2.ex) ha1, ex_l w2.ex hb1, sz_of (by omega), fun p hp => q (.ref p) _ _ ((e1.trans e2).trans (Ex.new hp)) ((eB1.trans eB2).trans (w2.newE (o := .lst (xs ++ ys)) hp)) (w2.new hp) (.lst (sq_of upd_same) (DqAll.app (DqAll.mono (eB2.trans (w2.newE hp)) ha2) (DqAll.mono (w2.newE hp) hb2)))⟩) stays_dp
end

/-! ### one step into a goal -/
section
variable {σ : L2.St} {H : Hp} {te ta : TE} {tt tu : TT} {t u : TS} {D : Ends} {tA : TA} {sp : Sp} {E : XK}
theorem u_if (h : tt σ H fun b H1 => if b = true then t D σ H1 else u D σ H1) : tIfS tt t u D σ H := h
theorem u_not {Q : Bool → Hp → Prop} (h : tt σ H fun b H1 => Q (!b) H1) : tNot tt σ H Q := h
theorem u_or {Q : Bool → Hp → Prop} (h : tt σ H fun b H1 => if b = true then Q true H1 else tu σ H1 Q) : tOr tt tu σ H Q := h
theorem u_B {Q : Bool → Hp → Prop} (h : te σ H fun x H1 => ∃ c, x = .bl c ∧ Q c H1) : tB te σ H Q := h
theorem u_test {Q : Bool → Hp → Prop} (h : te σ H fun x H1 => ∃ c, x = .bl c ∧ Q c H1) : tTest te σ H Q := h
theorem u_call {Q : VK} (h : tA σ H fun vs H1 => sp (vs ++ []) H1 Q E) : tCall sp [] E tA σ H Q := h
theorem u_ac {Q : List V → Hp → Prop} (h : ta σ H fun x H1 => tA σ H1 fun xs H2 => Q (x :: xs) H2) : tCons ta tA σ H Q := h
theorem u_a1 {Q : List V → Hp → Prop} (h : ta σ H fun x H1 => Q [x] H1) : tCons ta tNil σ H Q := h
end
/-! ### all sides, gone through -/
def freeP (src snk : List Int) (p : Int) : Bool := !decide (p ∈ src) && !decide (p ∈ snk)
def sidesF (src snk : List Int) (ps : List Int) : List (List Int) := ps.foldl (fun L p => if freeP src snk p = true then L ++ L.map (fun X => X ++ [p]) else L) [src]
theorem sides_snoc (src snk ps : List Int) (p : Int) : sidesF src snk (ps ++ [p]) = if freeP src snk p = true then sidesF src snk ps ++ (sidesF src snk ps).map (fun X => X ++ [p]) else sidesF src snk ps := by
  unfold sidesF
  rw [List.foldl_append]
  rfl
theorem snoc_ind {α : Type} {P : List α → Prop} (h0 : P []) (hs : ∀ l a, P l → P (l ++ [a])) : ∀ l, P l := fun l => by
  have : ∀ n, ∀ l : List α, l.length = n → P l := by
    intro n
    induction n with
    | zero =>
      intro l h
      rw [List.length_eq_zero_iff.mp h]
      exact h0
    | succ n ih =>
      intro l h
      have hne : l ≠ [] := fun z => by rw [z] at h; cases h
      rw [← List.dropLast_concat_getLast hne]
      exact hs _ _ (ih _ (by rw [List.length_dropLast, h]; rfl))
  exact this _ l rfl
theorem sides_len (src snk : List Int) : ∀ ps : List Int, (sidesF src snk ps).length ≤ 2 ^ ps.length := snoc_ind (Nat.le_refl _) fun ps p ih => by
  rw [sides_snoc, List.length_append]
  show _ ≤ 2 ^ (ps.length + 1)
  rw [Nat.pow_succ]
  split
  · rw [List.length_append, List.length_map]
    omega
  · omega
theorem sides_in {src snk : List Int} (hs : src.Nodup) : ∀ ps : List Int, ps.Nodup → ∀ X ∈ sidesF src snk ps, X.Nodup ∧ (∀ s ∈ src, s ∈ X) ∧ (∀ x ∈ X, x ∈ src ∨ x ∈ ps ∧ freeP src snk x = true) ∧ X.length ≤ src.length + ps.length := by
  refine snoc_ind (P := fun ps => ps.Nodup → ∀ X ∈ sidesF src snk ps, X.Nodup ∧ (∀ s ∈ src, s ∈ X) ∧ (∀ x ∈ X, x ∈ src ∨ x ∈ ps ∧ freeP src snk x = true) ∧ X.length ≤ src.length + ps.length) ?_ ?_
  · intro _ X hX
    rw [List.mem_singleton.mp hX]
    exact ⟨hs, fun s h => h, fun x h => .inl h, Nat.le_refl _⟩
  · intro ps p ih hn X hX
    have hn2 := List.nodup_append.mp hn
    have ih := ih hn2.1
    have wk : ∀ X ∈ sidesF src snk ps, X.Nodup ∧ (∀ s ∈ src, s ∈ X) ∧ (∀ x ∈ X, x ∈ src ∨ x ∈ ps ++ [p] ∧ freeP src snk x = true) ∧ X.length ≤ src.length + (ps ++ [p]).length := fun X h => by
      obtain ⟨h1, h2, h3, h4⟩ := ih X h
      refine ⟨h1, h2, fun x hx => (h3 x hx).imp id fun z => ⟨List.mem_append_left _ z.1, z.2⟩, ?_⟩
      rw [List.length_append]
      omega
    rw [sides_snoc] at hX
    by_cases c : freeP src snk p = true
    · rw [if_pos c] at hX
      rcases List.mem_append.mp hX with hX | hX
      · exact wk X hX
      · obtain ⟨Y, hY, rfl⟩ := List.mem_map.mp hX
        obtain ⟨h1, h2, h3, h4⟩ := ih Y hY
        have hp : p ∉ Y := fun m => by
          rcases h3 p m with z | ⟨z, _⟩
          · unfold freeP at c
            rw [decide_eq_true z] at c
            cases c
          · exact hn2.2.2 p z p (List.mem_singleton.mpr rfl) rfl
        refine ⟨?_, fun s hs' => List.mem_append_left _ (h2 s hs'), fun x hx => ?_, ?_⟩
        · rw [List.nodup_append]
          exact ⟨h1, by simp, fun a ha b hb z => hp (by rw [← List.mem_singleton.mp hb, ← z]; exact ha)⟩
        · rcases List.mem_append.mp hx with hx | hx
          · exact (h3 x hx).imp id fun z => ⟨List.mem_append_left _ z.1, z.2⟩
          · rw [List.mem_singleton.mp hx]
            exact .inr ⟨List.mem_append_right _ (List.mem_singleton.mpr rfl), c⟩
        · rw [List.length_append, List.length_append]
          show Y.length + 1 ≤ src.length + (ps.length + 1)
          omega
    · rw [if_neg c] at hX
      exact wk X hX
theorem sides_all {src snk : List Int} (f : Int → Bool) : ∀ ps : List Int, ∃ X ∈ sidesF src snk ps, ∀ x, x ∈ X ↔ x ∈ src ∨ x ∈ ps ∧ freeP src snk x = true ∧ f x = true := by
  refine snoc_ind (P := fun ps => ∃ X ∈ sidesF src snk ps, ∀ x, x ∈ X ↔ x ∈ src ∨ x ∈ ps ∧ freeP src snk x = true ∧ f x = true) ?_ ?_
  · exact ⟨src, List.mem_singleton.mpr rfl, fun x => ⟨fun h => .inl h, fun h => h.elim id fun z => by cases z.1⟩⟩
  · rintro ps p ⟨X, hX, h⟩
    rw [sides_snoc]
    by_cases c : freeP src snk p = true
    · rw [if_pos c]
      by_cases d : f p = true
      · refine ⟨X ++ [p], List.mem_append_right _ (List.mem_map.mpr ⟨X, hX, rfl⟩), fun x => ?_⟩
        rw [List.mem_append, h x, List.mem_append, List.mem_singleton]
        constructor
        · rintro ((h1 | ⟨h1, h2⟩) | rfl)
          · exact .inl h1
          · exact .inr ⟨.inl h1, h2⟩
          · exact .inr ⟨.inr rfl, c, d⟩
        · rintro (h1 | ⟨h1 | rfl, h2⟩)
          · exact .inl (.inl h1)
          · exact .inl (.inr ⟨h1, h2⟩)
          · exact .inr rfl
      · refine ⟨X, List.mem_append_left _ hX, fun x => ?_⟩
        rw [h x, List.mem_append, List.mem_singleton]
        constructor
        · rintro (h1 | ⟨h1, h2⟩)
          · exact .inl h1
          · exact .inr ⟨.inl h1, h2⟩
        · rintro (h1 | ⟨h1 | rfl, h2⟩)
          · exact .inl h1
          · exact .inr ⟨h1, h2⟩
          · exact absurd h2.2 d
    · rw [if_neg c]
      refine ⟨X, hX, fun x => ?_⟩
      rw [h x, List.mem_append, List.mem_singleton]
      constructor
      · rintro (h1 | ⟨h1, h2⟩)
        · exact .inl h1
        · exact .inr ⟨.inl h1, h2⟩
      · rintro (h1 | ⟨h1 | rfl, h2⟩)
        · exact .inl h1
        · exact .inr ⟨h1, h2⟩
        · exact absurd h2.1 c
theorem cutW_congr {ts : List Tie} {X Y : List Int} (h : ∀ x, x ∈ X ↔ x ∈ Y) : cutW ts X = cutW ts Y := by
  rw [cutW_eq, cutW_eq]
  congr 1
  refine List.map_congr_left fun t _ => ?_
  unfold cutT
  have e : ∀ x, decide (x ∈ X) = decide (x ∈ Y) := fun x => decide_eq_decide.mpr (h x)
  rw [e, e]
theorem srt_mem {X : List Int} {x : Int} : x ∈ srt X ↔ x ∈ X := (srt_perm X).mem_iff
section
variable {n : Int} {ts : List Tie} {src snk am : List Int}
def sidesL (n : Int) (src snk : List Int) : List (List Int) := (sidesF src snk (rngI 0 n.toNat)).map srt
theorem sidesL_side (e : Ends2 n src snk) {X : List Int} (h : X ∈ sidesL n src snk) : Side src snk X ∧ (∀ p ∈ X, 0 ≤ p ∧ p < n) ∧ X.Pairwise (· ≤ ·) := by
  obtain ⟨Y, hY, rfl⟩ := List.mem_map.mp h
  obtain ⟨h1, h2, h3, _⟩ := sides_in (snk := snk) e.nd (rngI 0 n.toNat) (rngI_nd _ _) Y hY
  refine ⟨⟨(srt_perm Y).nodup_iff.mpr h1, fun s hs => srt_mem.mpr (h2 s hs), fun s hs hm => ?_⟩, fun p hp => ?_, srt_le Y⟩
  · rcases h3 s (srt_mem.mp hm) with z | ⟨_, z⟩
    · exact e.apart s z hs
    · unfold freeP at z
      rw [decide_eq_true hs, Bool.and_eq_true] at z
      exact absurd z.2 (by decide)
  · rcases h3 p (srt_mem.mp hp) with z | ⟨z, _⟩
    · exact e.rng p z
    · have := rngI_mem.mp z
      omega
theorem sidesL_has (e : Ends2 n src snk) {Y : List Int} (h : Side src snk Y) (hr : ∀ p ∈ Y, 0 ≤ p ∧ p < n) : ∃ X ∈ sidesL n src snk, ∀ x, x ∈ X ↔ x ∈ Y := by
  obtain ⟨X, hX, hx⟩ := sides_all (src := src) (snk := snk) (fun x => decide (x ∈ Y)) (rngI 0 n.toNat)
  refine ⟨srt X, List.mem_map.mpr ⟨X, hX, rfl⟩, fun x => ?_⟩
  rw [srt_mem, hx x, rngI_mem, decide_eq_true_iff]
  constructor
  · rintro (h1 | ⟨_, _, h1⟩)
    · exact h.all x h1
    · exact h1
  · intro hy
    by_cases z : x ∈ src
    · exact .inl z
    · have := hr x hy
      refine .inr ⟨by omega, ?_, hy⟩
      unfold freeP
      rw [decide_eq_false z, decide_eq_false fun m => h.no x m hy]
      rfl
def valF (ts : List Tie) (n : Int) (src snk : List Int) : Int := leastL ((sidesL n src snk).map (cutW ts))
def lightL (ts : List Tie) (n : Int) (src snk : List Int) : List (List Int) := (sidesL n src snk).filter fun X => decide (cutW ts X = valF ts n src snk)
theorem flow_val (hin : TiesIn n ts) (e : Ends2 n src snk) (F : Flowed n ts src snk am) : valF ts n src snk = dotF ts am (indL src) ∧ cutW ts (keysC (bfs0 n ts src am)) = dotF ts am (indL src) := by
  have hR := (light_iff hin F.feas F.kept e.nd F.side).2.mpr F.closed
  refine ⟨?_, hR⟩
  obtain ⟨X, hX, hx⟩ := sidesL_has e F.side F.rng
  have hne : (sidesL n src snk).map (cutW ts) ≠ [] := fun z => by
    rw [List.map_eq_nil_iff] at z
    rw [z] at hX
    cases hX
  obtain ⟨l1, l2⟩ := leastL_ok hne
  have h1 := l2 _ (List.mem_map.mpr ⟨X, hX, rfl⟩)
  rw [cutW_congr hx, hR] at h1
  obtain ⟨Y, hY, eY⟩ := List.mem_map.mp l1
  have h2 := (light_iff hin F.feas F.kept e.nd (sidesL_side e hY).1).1
  unfold valF
  omega
theorem light_mem (hin : TiesIn n ts) (e : Ends2 n src snk) (F : Flowed n ts src snk am) {X : List Int} : X ∈ lightL ts n src snk ↔ X ∈ sidesL n src snk ∧ ClosedS ts am X := by
  unfold lightL
  rw [List.mem_filter, decide_eq_true_iff, (flow_val hin e F).1]
  constructor
  · exact fun ⟨h1, h2⟩ => ⟨h1, (light_iff hin F.feas F.kept e.nd (sidesL_side e h1).1).2.mp h2⟩
  · exact fun ⟨h1, h2⟩ => ⟨h1, (light_iff hin F.feas F.kept e.nd (sidesL_side e h1).1).2.mpr h2⟩
/-- the places of some lightest side -/
theorem wide_some (hin : TiesIn n ts) (e : Ends2 n src snk) (F : Flowed n ts src snk am) : ((rngI 0 n.toNat).filter fun p => (lightL ts n src snk).any fun X => decide (p ∈ X)) = wideL n (backL n ts am snk) := by
  obtain ⟨hb, _⟩ := backL_ok (am := am) hin e.rng2
  have hws := wide_side hin e F hb
  have hwc := wide_closed hin hb
  refine List.filter_congr fun p hp => ?_
  rw [Bool.eq_iff_iff, List.any_eq_true]
  have hpr := rngI_mem.mp hp
  constructor
  · rintro ⟨X, hX, hx⟩
    obtain ⟨h1, h2⟩ := (light_mem hin e F).mp hX
    obtain ⟨g1, g2, _⟩ := sidesL_side e h1
    have := in_wide hin e hb g1 g2 h2 p (of_decide_eq_true hx)
    rw [wide_mem] at this
    rw [decide_eq_false this.2]
    rfl
  · intro h
    have hpw : p ∈ wideL n (backL n ts am snk) := List.mem_filter.mpr ⟨hp, h⟩
    obtain ⟨X, hX, hx⟩ := sidesL_has e hws fun p hp => (wide_mem.mp hp).1
    refine ⟨X, (light_mem hin e F).mpr ⟨hX, fun a ha b hr => (hx b).mpr (hwc a ((hx a).mp ha) b hr)⟩, decide_eq_true ((hx p).mpr hpw)⟩
/-- the places of each lightest side -/
theorem least_each (hin : TiesIn n ts) (e : Ends2 n src snk) (F : Flowed n ts src snk am) : ((rngI 0 n.toNat).filter fun p => (lightL ts n src snk).all fun X => decide (p ∈ X)) = srt (keysC (bfs0 n ts src am)) := by
  refine sorted_eq ((rngI_lt _ _).filter _) (sorted_of (srt_perm _) (srt_le _) F.side.nd) fun p => ?_
  rw [List.mem_filter, rngI_mem, srt_mem, List.all_eq_true]
  constructor
  · rintro ⟨_, h⟩
    obtain ⟨X, hX, hx⟩ := sidesL_has e F.side F.rng
    exact (hx p).mp (of_decide_eq_true (h X ((light_mem hin e F).mpr ⟨hX, fun a ha b hr => (hx b).mpr (F.closed a ((hx a).mp ha) b hr)⟩)))
  · intro hp
    have := F.rng p hp
    refine ⟨by omega, fun X hX => ?_⟩
    obtain ⟨h1, h2⟩ := (light_mem hin e F).mp hX
    exact decide_eq_true (came_in hin e.nd e.rng (sidesL_side e h1).1.all h2 p hp)
/-! #### the other way about -/
theorem Ends2.flip (e : Ends2 n src snk) : Ends2 n snk src := ⟨e.nd2, e.nd, e.rng2, e.rng, fun s hs hm => e.apart s hm hs⟩
def compL (n : Int) (X : List Int) : List Int := (rngI 0 n.toNat).filter fun p => !decide (p ∈ X)
theorem comp_memL {X : List Int} {p : Int} : p ∈ compL n X ↔ (0 ≤ p ∧ p < n) ∧ p ∉ X := wide_mem
theorem comp_side (e : Ends2 n src snk) {X : List Int} (h : Side src snk X) : Side snk src (compL n X) :=
  ⟨(rngI_nd _ _).filter _, fun s hs => comp_memL.mpr ⟨e.rng2 s hs, h.no s hs⟩, fun s hs hm => (comp_memL.mp hm).2 (h.all s hs)⟩
theorem comp_cut (hin : TiesIn n ts) (X : List Int) : cutW ts (compL n X) = cutW ts X := by
  rw [cutW_eq, cutW_eq]
  congr 1
  refine List.map_congr_left fun t ht => ?_
  have hr := hin t ht
  unfold cutT
  have e : ∀ x, 0 ≤ x → x < n → decide (x ∈ compL n X) = !decide (x ∈ X) := fun x h0 h1 => by
    by_cases z : x ∈ X
    · rw [decide_eq_true z, decide_eq_false fun m => (comp_memL.mp m).2 z]
      rfl
    · rw [decide_eq_false z, decide_eq_true (comp_memL.mpr ⟨⟨h0, h1⟩, z⟩)]
      rfl
  rw [e t.1 (by omega) (by omega), e t.2.1 (by omega) (by omega)]
  cases decide (t.1 ∈ X) <;> cases decide (t.2.1 ∈ X) <;> rfl
/-- the flow turned about: of the same weight, its side all that is not in the wide one -/
theorem turned_flow (hin : TiesIn n ts) (e : Ends2 n src snk) (F : Flowed n ts src snk am) {bm : List Int} (G : Flowed n ts snk src bm) :
    cutW ts (srt (keysC (bfs0 n ts snk bm))) = valF ts n src snk ∧ srt (keysC (bfs0 n ts snk bm)) = compL n (wideL n (backL n ts am snk)) := by
  obtain ⟨hb, _⟩ := backL_ok (am := am) hin e.rng2
  have hws := wide_side hin e F hb
  have hwc := wide_closed hin hb
  obtain ⟨v1, v2⟩ := flow_val hin e F
  obtain ⟨u1, u2⟩ := flow_val hin e.flip G
  have hw : cutW ts (wideL n (backL n ts am snk)) = dotF ts am (indL src) := (light_iff hin F.feas F.kept e.nd hws).2.mpr hwc
  -- both are least
  have a1 := (light_iff hin G.feas G.kept e.nd2 (comp_side e F.side)).1
  rw [comp_cut hin, v2] at a1
  have a2 := (light_iff hin F.feas F.kept e.nd (comp_side e.flip G.side)).1
  rw [comp_cut hin, u2] at a2
  have hv : dotF ts am (indL src) = dotF ts bm (indL snk) := by omega
  have hsame : cutW ts (srt (keysC (bfs0 n ts snk bm))) = dotF ts bm (indL snk) := by rw [cutW_congr (fun x => srt_mem), u2]
  refine ⟨by rw [hsame, v1, hv], ?_⟩
  refine sorted_eq (sorted_of (srt_perm _) (srt_le _) G.side.nd) ((rngI_lt _ _).filter _) fun p => ?_
  rw [srt_mem]
  constructor
  · -- the reverse side lies in each of its lightest
    intro hp
    have hc2 : ClosedS ts bm (compL n (wideL n (backL n ts am snk))) := (light_iff hin G.feas G.kept e.nd2 (comp_side e hws)).2.mp (by rw [comp_cut hin, hw, hv])
    exact came_in hin e.nd2 e.rng2 (comp_side e hws).all hc2 p hp
  · intro hp
    refine Classical.byContradiction fun hn => ?_
    have hpr := (comp_memL.mp hp).1
    have hc3 : ClosedS ts am (compL n (keysC (bfs0 n ts snk bm))) := (light_iff hin F.feas F.kept e.nd (comp_side e.flip G.side)).2.mp (by rw [comp_cut hin, u2, hv])
    exact (comp_memL.mp hp).2 (in_wide hin e hb (comp_side e.flip G.side) (fun q hq => (comp_memL.mp hq).1) hc3 p (comp_memL.mpr ⟨hpr, hn⟩))
end
end Pw

/-! ## PwN2 -/
namespace Pw
open PySem L2 Evl
section
variable {F : Fr} {K : PySem.W.Frag} {Γ : En0} {i j : Nat} {v : V} {d d' : PyData} {ds es : List PyData} {te ta tb tl tc td ty : TE} {tt tu : TT} {tA : TA} {wi wi1 wi2 : TI} {g : TG} {R R' : V → Hp → Prop} {b b' : Bool}
theorem n_catQ (ha : EE K ta Γ (.list ds)) (hb : EE K tb Γ (.list es)) (hl : ds.length + es.length ≤ 100000) : EE K (tOp (rCatQ K) ta tb) Γ (.list (ds ++ es)) := fun σ B e => ev_catQ (ha σ B e) (hb σ B e) hl
theorem n_srt {ns : List Int} (h : EE K te Γ (.list (ns.map .int))) : EE K (tCB (rSortedI K) (tCons te tNil)) Γ (.list ((srt ns).map .int)) := fun σ B e => ev_srt (h σ B e)
theorem n_rev (h : EE K te Γ (.list ds)) : EE K (tRevL K te) Γ (.list ds.reverse) := fun σ B e => ev_revL (h σ B e)
theorem n_listRg {j : Int} (h : EE K ta Γ (.int j)) (hj : -100000 ≤ j ∧ j ≤ 100000) : EE K (tCB rListRng (tCons (tCB rRng1 (tCons ta tNil)) tNil)) Γ (.list ((rngI 0 j.toNat).map .int)) := fun σ B e => ev_listrange (h σ B e) hj
theorem n_tupleRg {n : Int} (h : EE K ta Γ (.int n)) (hn : 0 ≤ n ∧ n ≤ 100000) : EE K (tTupRg (tRg1 ta)) Γ (.tuple ((rngI 0 n.toNat).map .int)) := fun σ B e => ev_tupRg (h σ B e) hn
theorem n_minL {ns : List Int} (h : EE K te Γ (.list (ns.map .int))) (hn : ns ≠ []) : EE K (tCB (rMin K) (tCons te tNil)) Γ (.int (leastL ns)) := fun σ B e => ev_minL (h σ B e) hn
theorem n_isN (h : EE K ta Γ d) (hb : (tyN d == "NoneType") = b) : EE K (tOp rIsNs ta (tC .non)) Γ (.bool b) := fun σ B e => ev_isN (h σ B e) hb
theorem n_notN (h : EE K ta Γ d) (hb : (tyN d == "NoneType") = b) : EE K (tOp rNotNs ta (tC .non)) Γ (.bool (!b)) := fun σ B e => ev_notN (h σ B e) hb
theorem nw_orl (h : EW K wi1 Γ ds) : EW K (fun σ H R => wi1 σ H R ∨ wi2 σ H R) Γ ds := fun σ B e S H w R k => .inl (h σ B e S H w R k)
theorem nw_orr (h : EW K wi2 Γ ds) : EW K (fun σ H R => wi1 σ H R ∨ wi2 σ H R) Γ ds := fun σ B e S H w R k => .inr (h σ B e S H w R k)
theorem zipD_map {α β : Type} (e1 : α → PyData) (e2 : β → PyData) (xs : List α) (ys : List β) : zipD (xs.map e1) (ys.map e2) = (xs.zip ys).map fun p => .tuple [e1 p.1, e2 p.2] := by
  unfold zipD
  rw [List.zip_map, List.map_map]
  rfl
theorem nw_zip {α β : Type} {e1 : α → PyData} {e2 : β → PyData} {xs : List α} {ys : List β} {t u : Bool} (h : EA K tA Γ [seqD t (xs.map e1), seqD u (ys.map e2)]) : EW K (iZipO t u K tA) Γ ((xs.zip ys).map fun p => .tuple [e1 p.1, e2 p.2]) :=
  nw_is (fun σ B e => wk_zipO (h σ B e)) (zipD_map e1 e2 xs ys)
/-- the one or the other a list or a tuple -/
theorem nw_zipSF {α β : Type} {e1 : α → PyData} {e2 : β → PyData} {xs : List α} {ys : List β} {t u : Bool} (h : EA K tA Γ [seqD t (xs.map e1), seqD u (ys.map e2)]) : EW K (fun σ H R => iZipO false u K tA σ H R ∨ iZipO true u K tA σ H R) Γ ((xs.zip ys).map fun p => .tuple [e1 p.1, e2 p.2]) := by
  cases t with
  | false => exact nw_orl (nw_zip h)
  | true => exact nw_orr (nw_zip h)
theorem nw_zipFS {α β : Type} {e1 : α → PyData} {e2 : β → PyData} {xs : List α} {ys : List β} {t u : Bool} (h : EA K tA Γ [seqD t (xs.map e1), seqD u (ys.map e2)]) : EW K (fun σ H R => iZipO t false K tA σ H R ∨ iZipO t true K tA σ H R) Γ ((xs.zip ys).map fun p => .tuple [e1 p.1, e2 p.2]) := by
  cases u with
  | false => exact nw_orl (nw_zip h)
  | true => exact nw_orr (nw_zip h)
theorem enumD_map {α : Type} (e1 : α → PyData) (xs : List α) : enumD (xs.map e1) = (xs.zipIdx).map fun p => .tuple [.int (p.2 : Nat), e1 p.1] := by
  unfold enumD
  rw [List.zipIdx_map, List.map_map]
  rfl
theorem nw_enum {α : Type} {e1 : α → PyData} {xs : List α} {t : Bool} (h : EA K tA Γ [seqD t (xs.map e1)]) : EW K (iEnumO t K tA) Γ ((xs.zipIdx).map fun p => .tuple [.int (p.2 : Nat), e1 p.1]) := nw_is (fun σ B e => wk_enumO (h σ B e)) (enumD_map e1 xs)
theorem nw_enumS {α : Type} {e1 : α → PyData} {xs : List α} {t : Bool} (h : EA K tA Γ [seqD t (xs.map e1)]) : EW K (fun σ H R => iEnumO false K tA σ H R ∨ iEnumO true K tA σ H R) Γ ((xs.zipIdx).map fun p => .tuple [.int (p.2 : Nat), e1 p.1]) := by
  cases t with
  | false => exact nw_orl (nw_enum h)
  | true => exact nw_orr (nw_enum h)
theorem nw_slS {t : Bool} {tl th : TO} {lo hi : Option Int} (h : EE K te Γ (seqD t ds)) (hl : EPt K tl Γ lo) (hh : EPt K th Γ hi) : EW K (fun σ H R => iList K (tSl (rSlL K) te tl th) σ H R ∨ iTup K (tSl (rSlA K) te tl th) σ H R) Γ (cutA ds lo hi) := fun σ B e => wk_slS (h σ B e) (hl σ B e) (hh σ B e)
end
end Pw

/-! ## K41_law_take -/
namespace Pw
open PySem L2 Evl
section
variable {P : Program} {w : World} {K : PySem.W.Frag} {mg : Str → Option Value} {base : Heap}
theorem sc_law_take : FnScope nm_law_take ps_law_take (defScope s_law_take) := ⟨rfl, rfl, rfl, by decide +kernel, rfl, by decide +kernel, by decide +kernel⟩
theorem ok_law_take {f : Addr} {fd : FuncData} (T : Txt mg) (Ds : Defs K mg) (D : Dfn K mg "_law_take" s_law_take ps_law_take f fd) : FnOk P w K mg base CX0 1 f fd ps_law_take spTake := by
  refine D.F.ok sc_law_take (fun vs H Q E h => ?_) (fun cdv A outer s H vs Q E hr h => ?_)
  · obtain ⟨b, m, c, rfl, _⟩ := h
    rfl
  · obtain ⟨b, m, c, rfl, ⟨x, y, z, hb, hx, hy, hy2, hz, hzc⟩, hc, hm, hm2, q⟩ := h
    refine ⟨_, (pss_cons (ps_if (pt_cmpR op_gt (pe_ix ix_seq (pv 0) pe_int (fun _ _ => rfl)) pe_int (nomark _))
        (pss_cons (ps_set (i := 2) sc_law_take.nd rfl (Or.inl rfl) (pe_op op_mod (pe_ix ix_seq (pv 0) pe_int (fun _ _ => rfl)) (pv 1)))
        (pss_cons (ps_asg (pe_op op_fdivW (pe_ix ix_seq (pv 0) pe_int (fun _ _ => rfl)) (pv 1)) (pg_sub (pv 0) pe_int set_list))
        (pss_one (ps_ret (pv 2)))))
        pss_nil)
      (pss_cons (ps_asg (pe_op op_add (pe_ix ix_seq (pv 0) pe_int (fun _ _ => rfl)) pe_int) (pg_sub (pv 0) pe_int set_list))
      (pss_cons (ps_set (i := 3) sc_law_take.nd rfl (Or.inl rfl) (pe_op op_mod (pe_op op_mul (pe_op op_add (pe_ix ix_seq (pv 0) pe_int (fun _ _ => rfl)) (pe_op op_mul pe_int (pe_ix ix_seq (pv 0) pe_int (fun _ _ => rfl)))) (pe_op op_add pe_int (pe_ix ix_seq (pv 0) pe_int (fun _ _ => rfl)))) pe_int))
      (pss_cons (ps_set (i := 4) sc_law_take.nd rfl (Or.inl rfl) (pe_op op_mod (pe_op op_mul (pe_op op_add (pv 3) (pe_ix ix_seq (pv 0) pe_int (fun _ _ => rfl))) (pe_op op_add (pe_op op_mod (pv 3) pe_int) pe_int)) pe_int))
      (pss_one (ps_ret (pe_op op_mod (pe_op op_fdiv (pe_op op_mod (pe_op op_add (pe_op op_mul (pv 4) pe_int) (pv 3)) pe_int) pe_int) (pv 1)))))))), ?_⟩
    have a0 : atI [V.int x, V.int y, V.int z] 0 = some (.int x) := rfl
    refine ⟨_, rfl, .inl ⟨b, _, _, _, rfl, rfl, sq_of hb, rfl, _, _, rfl, rfl, _, rfl, ite2 (fun e => ?_) (fun e => ?_)⟩⟩
    · have hx0 : 0 < x := of_decide_eq_true e
      refine ⟨_, rfl, .inl ⟨b, _, _, _, rfl, rfl, sq_of hb, rfl, _, rfl, _, _, rfl, rfl, by show 0 < m; omega, ?_⟩⟩
      refine ⟨_, rfl, .inl ⟨b, _, _, _, rfl, rfl, sq_of hb, rfl, _, rfl, _, _, rfl, rfl, wide_div (b := 100) (by omega) (by omega) (by decide) (by decide), ?_⟩⟩
      refine ⟨_, rfl, b, _, _, 0, rfl, rfl, hb, rfl, ?_⟩
      refine ⟨_, rfl, q _ _ (Int.emod_nonneg _ (by omega)) (Int.emod_lt_of_pos _ (by omega)) ⟨Xs.refl.put (List.mem_singleton.mpr rfl), _, _, _, upd_same, ?_, hy, hy2, hz, by omega⟩⟩
      exact Int.ediv_nonneg hx (by omega)
    · refine ⟨_, rfl, .inl ⟨b, _, _, _, rfl, rfl, sq_of hb, rfl, _, _, rfl, rfl, _, rfl, b, _, _, 2, rfl, rfl, hb, rfl, ?_⟩⟩
      have hb1 : (upd H b (.lst [.int x, .int y, .int (z + 1)])) b = some (.lst [.int x, .int y, .int (z + 1)]) := upd_same
      refine ⟨_, rfl, .inl ⟨b, _, _, _, rfl, rfl, sq_of hb1, rfl, _, rfl, .inl ⟨b, _, _, _, rfl, rfl, sq_of hb1, rfl, _, _, rfl, rfl, .inl ⟨by decide, by decide⟩, _, _, rfl, rfl, ?_⟩⟩⟩
      refine ⟨_, rfl, .inl ⟨b, _, _, _, rfl, rfl, sq_of hb1, rfl, _, _, rfl, rfl, _, _, rfl, rfl, .inr ⟨by omega, by omega⟩, _, _, rfl, rfl, (by show (0 : Int) < _; decide), ?_⟩⟩
      have h3 := Int.emod_nonneg ((y + 48271 * (z + 1)) * (39373 + (z + 1))) (b := 2147483647) (by decide)
      have h4 := Int.emod_lt_of_pos ((y + 48271 * (z + 1)) * (39373 + (z + 1))) (b := 2147483647) (by decide)
      generalize (y + 48271 * (z + 1)) * (39373 + (z + 1)) % 2147483647 = once at h3 h4 ⊢
      have h5 := Int.emod_nonneg once (b := 40009) (by decide)
      have h6 := Int.emod_lt_of_pos once (b := 40009) (by decide)
      refine ⟨_, rfl, _, rfl, .inl ⟨b, _, _, _, rfl, rfl, sq_of hb1, rfl, _, _, rfl, rfl, _, rfl, _, _, rfl, rfl, (by show (0 : Int) < _; decide), _, _, rfl, rfl, _, _, rfl, rfl, .inr ⟨by omega, by omega⟩, _, _, rfl, rfl, (by show (0 : Int) < _; decide), ?_⟩⟩
      have h7 := Int.emod_nonneg ((once + (z + 1)) * (once % 40009 + 7)) (b := 2147483629) (by decide)
      have h8 := Int.emod_lt_of_pos ((once + (z + 1)) * (once % 40009 + 7)) (b := 2147483629) (by decide)
      generalize (once + (z + 1)) * (once % 40009 + 7) % 2147483629 = twice at h7 h8 ⊢
      refine ⟨_, rfl, _, _, rfl, rfl, .inr ⟨by decide, by decide⟩, _, rfl, _, _, rfl, rfl, _, _, rfl, rfl, (by show (0 : Int) < _; decide), _, _, rfl, rfl, ⟨by decide, by decide⟩, _, rfl, _, _, rfl, rfl, by show 0 < m; omega, ?_⟩
      exact q _ _ (Int.emod_nonneg _ (by omega)) (Int.emod_lt_of_pos _ (by omega)) ⟨Xs.refl.put (List.mem_singleton.mpr rfl), _, _, _, upd_same, hx, hy, hy2, by omega, by omega⟩
end
end Pw

/-! ## K41_law_weight -/
namespace Pw
open PySem L2 Evl
section
variable {P : Program} {w : World} {K : PySem.W.Frag} {mg : Str → Option Value} {base : Heap}
theorem sc_law_weight : FnScope nm_law_weight ps_law_weight (defScope s_law_weight) := ⟨rfl, rfl, rfl, by decide +kernel, rfl, by decide +kernel, by decide +kernel⟩
theorem ok_law_weight {f : Addr} {fd : FuncData} (T : Txt mg) (Ds : Defs K mg) (D : Dfn K mg "_law_weight" s_law_weight ps_law_weight f fd) : FnOk P w K mg base CX0 2 f fd ps_law_weight spWeight := by
  obtain ⟨f_law_take, fd_law_take, D_law_take⟩ := Ds.d_law_take
  have G_law_take := ok_law_take (P := P) (w := w) (base := base) T Ds D_law_take
  refine D.F.ok sc_law_weight (fun vs H Q E h => ?_) (fun cdv A outer s H vs Q E hr h => ?_)
  · obtain ⟨b, h, c, rfl, _⟩ := h
    rfl
  · obtain ⟨b, h, c, rfl, hb, hc, h0, h4, q⟩ := h
    have hr_law_take := hr.mono (show 1 ≤ 1 by decide)
    refine ⟨_, (pss_one (ps_ret (pe_op op_add pe_int (pe_call G_law_take hr_law_take (by rfl) D_law_take.g D_law_take.F.kp D_law_take.b .nil pass0 (pa_cons (pv 0) (pa_cons (pe_ix ix_list (pe_lst (pa_cons pe_int (pa_cons pe_int (pa_cons pe_int (pa_cons (pe_ix ix_list (pe_lst (pa_cons pe_int (pa_cons pe_int (pa_cons (pe_op op_pow pe_int pe_int) pa_nil)))) (pe_call G_law_take hr_law_take (by rfl) D_law_take.g D_law_take.F.kp D_law_take.b .nil pass0 (pa_cons (pv 0) (pa_cons pe_int pa_nil))) (fun _ _ => rfl)) pa_nil))))) (pv 1) (fun _ _ => rfl)) pa_nil)))))), ?_⟩
    refine ⟨_, rfl, _, _, rfl, rfl, ⟨by decide, by decide, by decide⟩, (by show 3 ≤ sizeLine; decide), fun p hp => ?_⟩
    have np : b ≠ p := hb.ne hp
    refine ⟨_, rfl, b, 3, c, rfl, hb.upd np, by omega, by decide, by decide, fun v H1 h1 h2 hb1 => ?_⟩
    have ep : H1 p = some (.lst [.int 10, .int 100, .int (10 ^ 9)]) := hb1.at np.symm upd_same
    obtain ⟨r, hr1, hr2, hr3⟩ : ∃ r : Int, atI [V.int 10, V.int 100, V.int (10 ^ 9)] v = some (.int r) ∧ 10 ≤ r ∧ r ≤ 1000000000 := by
      have : v = 0 ∨ v = 1 ∨ v = 2 := by omega
      rcases this with rfl | rfl | rfl
      · exact ⟨10, rfl, by decide, by decide⟩
      · exact ⟨100, rfl, by decide, by decide⟩
      · exact ⟨10 ^ 9, rfl, by decide, by decide⟩
    refine ⟨p, _, _, _, rfl, rfl, sq_of ep, hr1, (by show 4 ≤ sizeLine; decide), fun p2 hp2 => ?_⟩
    have np2 : b ≠ p2 := hb1.at_.ne hp2
    obtain ⟨t, ht1, ht2, ht3⟩ : ∃ t : Int, atI [V.int 1, V.int 3, V.int 9, V.int r] h = some (.int t) ∧ 1 ≤ t ∧ t ≤ 1000000000 := by
      have : h = 0 ∨ h = 1 ∨ h = 2 ∨ h = 3 := by omega
      rcases this with rfl | rfl | rfl | rfl
      · exact ⟨1, rfl, by decide, by decide⟩
      · exact ⟨3, rfl, by decide, by decide⟩
      · exact ⟨9, rfl, by decide, by decide⟩
      · exact ⟨r, rfl, by omega, by omega⟩
    refine ⟨_, rfl, p2, _, _, _, rfl, rfl, sq_of upd_same, ht1, b, t, c + 1, rfl, hb1.at_.upd np2, by omega, by omega, by omega, fun u H2 h3 h4 hb2 => ⟨_, _, rfl, rfl, q _ _ (by omega) (by omega) ?_⟩⟩
    exact (Bx.pre (Ex.new hp) hb1).trans (Bx.pre (Ex.new hp2) hb2)
end
end Pw

/-! ## K41_law_tree -/
namespace Pw
open PySem L2 Evl
/-- a tree of n places is drawn -/
def spTree (K : PySem.W.Frag) : Sp := fun vs H Q _ => ∃ (S : List Addr) (b : Addr) (n : Int) (c : Nat), vs = [.ref b, .int n] ∧ b ∈ S ∧ (∀ s ∈ S, ∃ o, H s = some o) ∧ BoxAt H b c ∧ c + 1000 < 2 ^ 40 ∧ 1 ≤ n ∧ n ≤ 60 ∧
  ∀ v H' names us ts, TreeOf n names us ts → Dq K (mi H' S) v (webD n ts) → Bx b (c + 1000) H H' → Q v H'
section
variable {P : Program} {w : World} {K : PySem.W.Frag} {mg : Str → Option Value} {base : Heap}
theorem sc_law_tree : FnScope nm_law_tree ps_law_tree (defScope s_law_tree) := ⟨rfl, rfl, rfl, by decide +kernel, rfl, by decide +kernel, by decide +kernel⟩
theorem ok_law_tree {f : Addr} {fd : FuncData} (T : Txt mg) (Ds : Defs K mg) (D : Dfn K mg "_law_tree" s_law_tree ps_law_tree f fd) : FnOk P w K mg base CX0 3 f fd ps_law_tree (spTree K) := by
  obtain ⟨f_law_take, fd_law_take, D_law_take⟩ := Ds.d_law_take
  have G_law_take := ok_law_take (P := P) (w := w) (base := base) T Ds D_law_take
  obtain ⟨f_law_weight, fd_law_weight, D_law_weight⟩ := Ds.d_law_weight
  have G_law_weight := ok_law_weight (P := P) (w := w) (base := base) T Ds D_law_weight
  refine D.F.ok sc_law_tree (fun vs H Q E h => ?_) (fun cdv A0 outer s H vs Q E hr h => ?_)
  · obtain ⟨S, b, n, c, rfl, _⟩ := h
    rfl
  · obtain ⟨S, b, n, c, rfl, hbS, hSd, hb, hc, hn1, hn60, q⟩ := h
    have hr_law_take := hr.mono (show 1 ≤ 2 by decide)
    have hr_law_weight := hr.mono (show 2 ≤ 2 by decide)
    refine ⟨_, (pss_cons (ps_par (i := 2) (j := 3) (by rfl) sc_law_tree.nd rfl rfl (by decide) rfl rfl (pa_cons (pe_call G_law_take hr_law_take (by rfl) D_law_take.g D_law_take.F.kp D_law_take.b .nil pass0 (pa_cons (pv 0) (pa_cons pe_int pa_nil))) (pa_cons (pe_call G_law_take hr_law_take (by rfl) D_law_take.g D_law_take.F.kp D_law_take.b .nil pass0 (pa_cons (pv 0) (pa_cons pe_int pa_nil))) pa_nil)) (by rfl))
      (pss_cons (ps_set (i := 4) sc_law_tree.nd rfl (Or.inl rfl) (pe_lst (pa_cons pe_int pa_nil)))
      (pss_cons (ps_for PassesOwn.never rfl (pi_range2 (by rfl) T.m_range (pa_cons pe_int (pa_cons (pv 1) pa_nil))) (pg_name (i := 5) sc_law_tree.nd rfl (Or.inl rfl))
        (pss_one (ps_expr (pe_bm PySem.F.plainAttrs_list PySem.F.slot_list_insert PySem.F.type_list_insert mt_insert (pv 4) (pa_cons (pe_call G_law_take hr_law_take (by rfl) D_law_take.g D_law_take.F.kp D_law_take.b .nil pass0 (pa_cons (pv 0) (pa_cons (pe_op op_add (pv 5) pe_int) pa_nil))) (pa_cons (pv 5) pa_nil))))))
      (pss_cons (ps_set (i := 6) sc_law_tree.nd rfl (Or.inl rfl) (pe_lst pa_nil))
      (pss_cons (ps_for PassesOwn.never rfl (pi_range2 (by rfl) T.m_range (pa_cons pe_int (pa_cons (pv 1) pa_nil))) (pg_name (i := 5) sc_law_tree.nd rfl (Or.inl rfl))
        (pss_cons (ps_par (i := 7) (j := 8) (by rfl) sc_law_tree.nd rfl rfl (by decide) rfl rfl (pa_cons (pe_ix ix_list (pv 4) (pe_ix ix_list (pe_lst (pa_cons (pe_op op_sub (pv 5) pe_int) (pa_cons pe_int (pa_cons (pe_call G_law_take hr_law_take (by rfl) D_law_take.g D_law_take.F.kp D_law_take.b .nil pass0 (pa_cons (pv 0) (pa_cons (pv 5) pa_nil))) pa_nil)))) (pe_callB (call_min2 rfl) (by rfl) T.m_min (by decide +kernel) (pa_cons (pv 3) (pa_cons pe_int pa_nil))) (fun _ _ => rfl)) (fun _ _ => rfl)) (pa_cons (pe_ix ix_list (pv 4) (pv 5) (fun _ _ => rfl)) pa_nil)) (by rfl))
        (pss_one (ps_expr (pe_bm PySem.F.plainAttrs_list PySem.F.slot_list_append PySem.F.type_list_append mt_append (pv 6) (pa_cons (pe_tup (pa_cons (pe_callB (call_min2 rfl) (by rfl) T.m_min (by decide +kernel) (pa_cons (pv 7) (pa_cons (pv 8) pa_nil))) (pa_cons (pe_callB (call_max2 rfl) (by rfl) T.m_max (by decide +kernel) (pa_cons (pv 7) (pa_cons (pv 8) pa_nil))) (pa_cons (pe_call G_law_weight hr_law_weight (by rfl) D_law_weight.g D_law_weight.F.kp D_law_weight.b .nil pass0 (pa_cons (pv 0) (pa_cons (pv 2) pa_nil))) pa_nil)))) pa_nil))))))
      (pss_one (ps_ret (pe_tup (pa_cons (pv 1) (pa_cons (pe_callTy call_tuple_of (by rfl) T.m_tuple (by decide +kernel) (pa_cons (pe_callB (cr_sortedTI hr.units) (by rfl) T.m_sorted (by decide +kernel) (pa_cons (pv 6) pa_nil)) pa_nil)) pa_nil)))))))))), ?_⟩
    have w0 : Wd S (mi H S) H := ⟨mi_ex, fun s m => mi_no m, hSd⟩
    -- heavy, way
    refine ⟨_, rfl, b, 4, c, rfl, hb, by omega, by decide, by decide, fun heavy H1 v0 v1 hb1 => ⟨_, rfl, b, 4, _, rfl, hb1.at_, by omega, by decide, by decide, fun way H2 y0 y1 hb2 => ⟨_, _, rfl, ?_⟩⟩⟩
    have hb2 := hb1.trans hb2
    obtain ⟨w2, eB2⟩ := w0.bx hbS hb2
    -- names
    refine ⟨Nat.le_of_ble_eq_true rfl, fun A hA => ?_⟩
    have w3 := w2.own (o := .lst [.int 0]) hA
    have nAb : A ≠ b := (hb2.at_.ne hA).symm
    have hA0 : H A = none := hb2.free hA
    have hA3 : upd H2 A (.lst [.int 0]) A = some (.lst [.int 0]) := upd_same
    have hb3 : Bx b (c + 2) H (upd H2 A (.lst [.int 0])) := hb2.ext (Ex.new hA)
    generalize upd H2 A (.lst [.int 0]) = H3 at w3 hA3 hb3
    refine st_for (K := K) (rngI 1 (n - 1).toNat) PyData.int w3 (wk_rng2 (ea_cons ev_int (ea_cons (ev_var rfl (.int n)) ea_nil)) (by decide) (by omega)) fun B4 H4 e4 eB4 w4 => ⟨fun i σ' H' => ∃ B' x5, ∃ nm : List Int, Ex B4 B' ∧ Wd (A :: S) B' H' ∧ H' A = some (.lst (nm.map V.int)) ∧ nm.Perm (rngI 0 (i + 1)) ∧ Bx b (c + 2 + i) H H' ∧
        σ' = [some (.ref b), some (.int n), some (.int heavy), some (.int way), some (.ref A), x5, none, none, none],
      ⟨B4, none, [0], Ex.refl _, w4, e4 _ _ hA3, List.Perm.refl _, hb3.ext e4, rfl⟩, ?_, ?_⟩
    · rintro i k σ' H' hk ⟨B', x5, nm, eB', w', hA', hp, hb', rfl⟩
      have hil := (List.getElem?_eq_some_iff.mp hk).1
      rw [rngI_len] at hil
      have ek : k = 1 + (i : Int) := by
        rw [rngI_get hil] at hk
        exact (Option.some.inj hk).symm
      have hnl := hp.length_eq
      rw [rngI_len] at hnl
      refine ⟨A :: S, B', eB', w', fun x B5 H5 e5 eB5 w5 hx => ?_⟩
      cases hx
      have hb5 := hb'.ext e5
      refine ⟨_, rfl, .inl ⟨rfl, _, sq_of (e5 _ _ hA')⟩, _, rfl, _, rfl, _, _, rfl, rfl, b, _, _, rfl, hb5.at_, by omega, by omega, by omega, fun j H6 j0 j1 hb6 => ⟨_, rfl, A, nm.map V.int, j, .int k, rfl, rfl, hb6.at nAb (e5 _ _ hA'), sz_lt (by rw [List.length_map]; omega), j0, by omega, ?_⟩⟩
      obtain ⟨w6, eB6⟩ := w5.bx (List.mem_cons_of_mem _ hbS) hb6
      refine ⟨mi H6 (A :: S), _, nm.take j.toNat ++ [k] ++ nm.drop j.toNat, eB'.trans (eB5.trans eB6), w6.put List.mem_cons_self, ?_, ?_, ((hb5.trans hb6).own hA0 nAb.symm).mono (by omega), rfl⟩
      · rw [upd_same, List.map_append, List.map_append, List.map_take, List.map_drop]
        rfl
      · have e : k = ((i + 1 : Nat) : Int) := by omega
        rw [e]
        exact insert_perm hp
    · rintro σ' H' ⟨B', x5, nm, eB', w', hA', hp, hb', rfl⟩
      rw [rngI_len] at hp hb'
      have hnp : nm.Perm (rngI 0 n.toNat) := by
        rw [show (n - 1).toNat + 1 = n.toNat by omega] at hp
        exact hp
      have hnl := hnp.length_eq
      rw [rngI_len] at hnl
      refine ⟨⟨_, B', eB', w'⟩, ?_⟩
      have w5 := w'.give hA' (w0.nin hA0)
      have hnm : Dq K (upd B' A (.lst (nm.map V.int))) (.ref A) (.list (nm.map .int)) := .lst (sq_of upd_same) DqAll.ints
      generalize upd B' A (.lst (nm.map V.int)) = B5 at w5 hnm
      -- ties
      dsimp only
      refine st_seq ?_
      refine ⟨Nat.le_of_ble_eq_true rfl, fun U hU => ?_⟩
      have w6 := w5.own (o := .lst []) hU
      have nUb : U ≠ b := (hb'.at_.ne hU).symm
      have hU0 : H U = none := hb'.free hU
      have hU6 : upd H' U (.lst []) U = some (.lst []) := upd_same
      have hb6 : Bx b (c + 100) H (upd H' U (.lst [])) := (hb'.ext (Ex.new hU)).mono (by omega)
      generalize upd H' U (.lst []) = H6 at w6 hU6 hb6
      refine st_gn ?_
      dsimp only
      refine st_seq ?_
      refine st_for (K := K) (rngI 1 (n - 1).toNat) PyData.int w6 (wk_rng2 (ea_cons ev_int (ea_cons (ev_var rfl (.int n)) ea_nil)) (by decide) (by omega)) fun B7 H7 e7 eB7 w7 => ⟨fun i σ' H' => ∃ B' us xs x5 x7 x8, Ex B7 B' ∧ Wd (U :: S) B' H' ∧ H' U = some (.lst xs) ∧ DqAll K B' xs (us.map tieD) ∧ us.length = i ∧ Grown nm us ∧ Bx b (c + 100 + 3 * i) H H' ∧
          σ' = [some (.ref b), some (.int n), some (.int heavy), some (.int way), some (.ref A), x5, some (.ref U), x7, x8],
        ⟨B7, [], [], _, _, _, Ex.refl _, w7, e7 _ _ hU6, .nil, rfl, Grown.nil _, hb6.ext e7, rfl⟩, ?_, ?_⟩
      · rintro i k σ' H8 hk ⟨B8, us, xs, x5', x7, x8, eB8, w8, hU8, hxs, hul, hg, hb8, rfl⟩
        have hil := (List.getElem?_eq_some_iff.mp hk).1
        rw [rngI_len] at hil
        have ek : k = 1 + (i : Int) := by
          rw [rngI_get hil] at hk
          exact (Option.some.inj hk).symm
        refine ⟨U :: S, B8, eB8, w8, fun x B9 H9 e9 eB9 w9 hx => ?_⟩
        cases hx
        have hbU : b ∈ U :: S := List.mem_cons_of_mem _ hbS
        have hb9 := hb8.ext e9
        -- the place ahead
        refine ⟨_, rfl, _, rfl, _, _, rfl, rfl, _, rfl, _, rfl, b, k, _, rfl, hb9.at_, by omega, by omega, by omega, fun o H10 o0 o1 hb10 => ?_⟩
        refine ⟨Nat.le_of_ble_eq_true rfl, fun L hL => ?_⟩
        obtain ⟨w10, eB10⟩ := w9.bx hbU hb10
        have hL11 : upd H10 L (.lst [.int (k - 1), .int 0, .int o]) L = some (.lst [.int (k - 1), .int 0, .int o]) := upd_same
        have w11 := w10.ext (Ex.new (o := .lst [.int (k - 1), .int 0, .int o]) hL)
        have hb11 := (hb9.trans hb10).ext (Ex.new (o := .lst [.int (k - 1), .int 0, .int o]) hL)
        have hU11 : upd H10 L (.lst [.int (k - 1), .int 0, .int o]) U = some (.lst xs) := (Ex.new hL) _ _ (hb10.at nUb (e9 _ _ hU8))
        generalize upd H10 L (.lst [.int (k - 1), .int 0, .int o]) = H11 at hL11 w11 hb11 hU11 ⊢
        have hnm11 := Dq.mono (eB7.trans (eB8.trans (eB9.trans eB10))) hnm
        obtain ⟨p, hat, hp0⟩ : ∃ p : Nat, atI [V.int (k - 1), .int 0, .int o] (if (2 : Int) < way then 2 else way) = some (.int (p : Int)) ∧ p ≤ i := by
          obtain rfl | rfl | hw2 : way = 0 ∨ way = 1 ∨ 2 ≤ way := by omega
          · exact ⟨i, by rw [show (i : Int) = k - 1 by omega]; rfl, Nat.le_refl _⟩
          · exact ⟨0, rfl, Nat.zero_le _⟩
          · refine ⟨o.toNat, ?_, by omega⟩
            rw [show ((o.toNat : Nat) : Int) = o by omega, show (if (2 : Int) < way then (2 : Int) else way) = 2 by split <;> omega]
            rfl
        refine ⟨_, rfl, _, _, rfl, ?_⟩
        refine ⟨L, _, _, .int (p : Int), rfl, rfl, sq_of hL11, hat, ?_⟩
        obtain ⟨a, ha⟩ : ∃ a, nm[p]? = some a := ⟨_, List.getElem?_eq_getElem (by omega)⟩
        obtain ⟨a2, ha2⟩ : ∃ a, nm[i + 1]? = some a := ⟨_, List.getElem?_eq_getElem (by omega)⟩
        have hsq : SqL K H11 A (nm.map V.int) := by
          cases hnm11 with
          | lst hs hd =>
            rw [← DqAll.ints_eq hd]
            exact ex_l w11.ex hs
        refine ⟨A, _, (p : Int), .int a, rfl, rfl, hsq, atI_at (by omega) (by rw [List.getElem?_map, show (p : Int).toNat = p by omega, ha]; rfl), ?_⟩
        refine ⟨_, rfl, _, rfl, A, _, k, .int a2, rfl, rfl, hsq, atI_at (by omega) (by rw [List.getElem?_map, show k.toNat = i + 1 by omega, ha2]; rfl), ?_⟩
        refine ⟨_, _, rfl, ?_⟩
        have hb13 := hb11
        have hU13 := hU11
        have w13 := w11
        have eB12 := Ex.refl (mi H10 (U :: S))
        have eB13 := Ex.refl (mi H10 (U :: S))
        refine ⟨_, rfl, .inl ⟨rfl, _, sq_of hU13⟩, _, rfl, _, rfl, _, _, rfl, _, rfl, _, rfl, _, _, rfl, _, rfl, _, rfl, b, heavy, _, rfl, hb13.at_, by omega, by omega, by omega, fun wt H14 g1 g2 hb14 => ⟨Nat.le_of_ble_eq_true rfl, fun r hr14 => ?_⟩⟩
        obtain ⟨w14, eB14⟩ := w13.bx hbU hb14
        have hU14 := hb14.at nUb hU13
        have w15 := w14.new (o := .tup [.int (if a2 < a then a2 else a), .int (if a2 > a then a2 else a), .int wt]) hr14
        have eN := w14.newE (o := .tup [.int (if a2 < a then a2 else a), .int (if a2 > a then a2 else a), .int wt]) hr14
        have hxl := DqAll.length hxs
        rw [List.length_map] at hxl
        refine ⟨U, xs, .ref r, rfl, rfl, (Ex.new hr14) _ _ hU14, sz_lt (by omega), ?_⟩
        have eAll := eB9.trans (eB10.trans (eB12.trans (eB13.trans (eB14.trans eN))))
        refine ⟨_, us ++ [mm a a2 wt], _, _, _, _, eB8.trans eAll, w15.put List.mem_cons_self, upd_same, ?_, by rw [List.length_append, hul]; rfl, hg.snoc (p := p) (by omega) ha (by rw [hul]; exact ha2) g1 g2, ?_, rfl⟩
        · rw [List.map_append]
          exact DqAll.snoc (DqAll.mono eAll hxs) (.tup upd_same (.cons (.int _) (.cons (.int _) (.cons (.int _) .nil))))
        · exact (((hb13.trans hb14).new hr14).own hU0 nUb.symm).mono (by omega)
      · rintro σ' H8 ⟨B8, us, xs, x5', x7, x8, eB8, w8, hU8, hxs, hul, hg, hb8, rfl⟩
        rw [rngI_len] at hul hb8
        refine ⟨⟨_, B8, eB8, w8⟩, ?_⟩
        have w9 := w8.give hU8 (w0.nin hU0)
        have hUd : Dq K (upd B8 U (.lst xs)) (.ref U) (.list (us.map tieD)) := .lst (sq_of upd_same) (DqAll.mono w8.giveE hxs)
        obtain ⟨ls, hs⟩ := sorts_ex (us.map tieL)
        obtain ⟨ts, hp', rfl⟩ := sorts_ties hs.1
        have ed : (us.map tieL).map tupI = us.map tieD := by rw [List.map_map]; rfl
        have ed2 : (ts.map tieL).map tupI = ts.map tieD := by rw [List.map_map]; rfl
        have hT : TreeOf n nm us ts := ⟨hn1, hn60, hnp, by omega, hg, hp', hs.2⟩
        refine st_ret w9 (ev_tup (ea_cons (ev_var rfl (.int n)) (ea_cons (ev_tuple (t := false) ((ev_sortsTI (ks := us.map tieL) (by rw [ed]; exact ev_var rfl hUd) (fun k hk => ?ne) hs).imp fun v B' h => by rw [← ed2]; exact h.dq)) ea_nil)) (Nat.le_of_ble_eq_true rfl)) fun v B9 H9 e9 eB9 w9' r => q v H9 nm us ts hT (Dq.mono (ex_mi w9'.ex w9'.no) r) ((hb8.ext e9).mono (by omega))
        obtain ⟨t, _, rfl⟩ := List.mem_map.mp hk
        exact List.cons_ne_nil _ _
end
end Pw

/-! ## K41_law_posts -/
namespace Pw
open PySem L2 Evl
section
variable {P : Program} {w : World} {K : PySem.W.Frag} {mg : Str → Option Value} {base : Heap}
theorem sc_law_posts : FnScope nm_law_posts ps_law_posts (defScope s_law_posts) := ⟨rfl, rfl, rfl, by decide +kernel, rfl, by decide +kernel, by decide +kernel⟩
theorem ok_law_posts {f : Addr} {fd : FuncData} (T : Txt mg) (Ds : Defs K mg) (D : Dfn K mg "_law_posts" s_law_posts ps_law_posts f fd) : FnOk P w K mg base CX0 2 f fd ps_law_posts (spPosts K) := by
  obtain ⟨f_law_take, fd_law_take, D_law_take⟩ := Ds.d_law_take
  have G_law_take := ok_law_take (P := P) (w := w) (base := base) T Ds D_law_take
  refine D.F.ok sc_law_posts (fun vs H Q E h => ?_) (fun cdv A0 outer s H vs Q E hr h => ?_)
  · obtain ⟨S, b, n, m, c, rfl, _⟩ := h
    rfl
  · obtain ⟨S, b, n, m, c, rfl, hbS, hSd, hb, hc, hn1, hn, hm2, hm, q⟩ := h
    have hr_law_take := hr.mono (show 1 ≤ 1 by decide)
    refine ⟨_, (pss_cons (ps_set (i := 3) sc_law_posts.nd rfl (Or.inr rfl) (pe_callTy (call_list_rng rfl) (by rfl) T.m_list (by decide +kernel) (pa_cons (pe_callTy cr_range1 (by rfl) T.m_range (by decide +kernel) (pa_cons (pv 1) pa_nil)) pa_nil)))
      (pss_cons (ps_setLc (i := 4) (own := [("_law_turn", 5)]) (g := (gName 5)) (by rfl) sc_law_posts.nd rfl rfl (sw_true rfl rfl rfl (by decide +kernel)) (pi_range1 (by rfl) T.m_range (pa_cons (pe_callB (call_min2 rfl) (by rfl) T.m_min (by decide +kernel) (pa_cons (pv 1) (pa_cons (pe_op op_add pe_int (pe_call G_law_take hr_law_take (by rfl) D_law_take.g D_law_take.F.kp D_law_take.b .nil pass0 (pa_cons (pv 0) (pa_cons (pe_op op_sub (pv 2) pe_int) pa_nil)))) pa_nil))) pa_nil)) (blkOk_by (own := [("_law_turn", 5)]) (N := nm_law_posts) (sc := defScope s_law_posts) (by decide +kernel)) (fun _ _ _ _ _ => (pg_name (i := 5) sc_law_posts.nd rfl (Or.inl rfl))) (fun _ _ _ _ _ => pts_nil) (fun _ _ _ _ _ => (pe_bmK K (by rfl) PySem.F.plainAttrs_list PySem.F.slot_list_pop PySem.F.type_list_pop mt_popAt (pv 3) (pa_cons (pe_call G_law_take hr_law_take (by rfl) D_law_take.g D_law_take.F.kp D_law_take.b .nil pass0 (pa_cons (pv 0) (pa_cons (pe_callB (r := Pw.rLenS K) call_len_seq (by rfl) T.m_len (by decide +kernel) (pa_cons (pv 3) pa_nil)) pa_nil))) pa_nil))))
      (pss_one (ps_ret (pe_callB cr_sortedI (by rfl) T.m_sorted (by decide +kernel) (pa_cons (pv 4) pa_nil)))))), ?_⟩
    have w0 : Wd S (mi H S) H := ⟨mi_ex, fun s m => mi_no m, hSd⟩
    -- some
    refine st_seq ?_
    refine ⟨_, rfl, n, rfl, fun r hr => ⟨r, 0, n, rfl, upd_same, by decide, by decide, by omega, by omega, by omega, fun A hA => ?_⟩⟩
    have e2 : Ex H (upd H r (.rng 0 n)) := Ex.new hr
    have hA0 : H A = none := fresh_back e2 hA
    have w2 := (w0.ext (Ex.new (o := .rng 0 n) hr)).own (o := .lst ((rngI 0 n.toNat).map V.int)) hA
    have el : (List.range (n - 0).toNat).map (fun (i : Nat) => V.int (0 + (i : Int))) = (rngI 0 n.toNat).map V.int := by
      unfold rngI
      rw [List.map_map, Int.sub_zero]
      rfl
    rw [el]
    have hA2 : upd (upd H r (.rng 0 n)) A (.lst ((rngI 0 n.toNat).map V.int)) A = some (.lst ((rngI 0 n.toNat).map V.int)) := upd_same
    have e3 : Ex H (upd (upd H r (.rng 0 n)) A (.lst ((rngI 0 n.toNat).map V.int))) := e2.trans (Ex.new hA)
    generalize upd (upd H r (.rng 0 n)) A (.lst ((rngI 0 n.toNat).map V.int)) = H3 at w2 hA2 e3
    have hb3 : Bx b c H H3 := (Bx.refl hb).ext e3
    have nAb : A ≠ b := fun z => by
      obtain ⟨o, ho⟩ := hb.some
      rw [← z, hA0] at ho
      cases ho
    have hbA : b ∈ A :: S := List.mem_cons_of_mem _ hbS
    have keep : ∀ {c1 c2 : Nat} {H1 H2 : Hp}, Bx b c1 H H1 → Xs [b, A] H1 H2 → BoxAt H2 b c2 → Bx b c2 H H2 := fun {c1 c2 H1 H2} h x hB => ⟨fun p o hp ho => by
      have hpA : p ≠ A := ne_of_none ho hA0
      have hpb : p ≠ b := fun z => hp (List.mem_singleton.mpr z)
      exact x p o (fun z => by
        rcases List.mem_cons.mp z with z | z
        · exact hpb z
        · exact hpA (List.mem_singleton.mp z)) (h.at hpb ho), hB⟩
    refine st_gn ?_
    try dsimp only
    -- found
    refine st_seq ?_
    refine st_set ?_
    refine lc_rng1 ?_
    refine ⟨_, rfl, _, rfl, _, rfl, _, _, rfl, rfl, b, _, c, rfl, hb3.at_, by omega, by omega, by omega, fun o H4 o0 o1 hb4 => ⟨_, _, rfl, rfl, _, _, rfl, ?_⟩⟩
    have hb4' := hb3.trans hb4
    obtain ⟨w4, eB4⟩ := w2.bx hbA hb4
    have hA4 := hb4.at nAb hA2
    obtain ⟨cnt, ec, hc1, hc2, hc3⟩ : ∃ cnt : Int, (if (2 : Int) + o < n then 2 + o else n) = cnt ∧ 1 ≤ cnt ∧ (cnt = 2 + o ∨ cnt = n) ∧ cnt ≤ 2 + o ∧ cnt ≤ n := by
      refine ⟨_, rfl, ?_⟩
      split <;> omega
    try dsimp only
    rw [ec]
    refine lc_pop (K := K) (wi := iRng1 (tCons (tC (.int cnt)) tNil)) (σ := [some (.ref b), some (.int n), some (.int m), some (.ref A), none, none]) (A := A) (rngI 0 cnt.toNat) PyData.int PyData.int (rngI 0 n.toNat) w4 hbA List.mem_cons_self nAb hb4.at_ (by rw [rngI_len]; unfold lid; omega) hA4 DqAll.ints (wk_rng1 (ea_cons ev_int ea_nil) (by omega)) (by rw [rngI_len, rngI_len]; omega) (by rw [rngI_len]; omega)
      (fun x H' xs' c' Qy Qn g1 g2 g3 g4 g5 g6 => ⟨rfl, (pop_at (K := K) (σ := [some (.ref b), some (.int n), some (.int m), some (.ref A), none, some x]) rfl rfl g1 nAb g4 g5 g2 g3 g6)⟩) fun v5 B5 H5 src rest hp1 hl1 x5 eB5 w5 hB5 ⟨xs5, hA5, hx5⟩ hd5 => ?_
    rw [rngI_len] at hl1 hB5
    have hb5 := keep hb4' x5 hB5
    have hall := hp1.nodup_iff.mpr (rngI_nd 0 n.toNat)
    have hnd := (List.nodup_append.mp hall).1
    have hok : PostsOk n (srt src) := ⟨sorted_of (srt_perm src) (srt_le src) hnd, fun p hp => by
      have := rngI_mem.mp (hp1.mem_iff.mp (List.mem_append_left rest (srt_mem.mp hp)))
      omega⟩
    have hlen : (srt src).length = cnt.toNat := by rw [srt_len, hl1]
    try dsimp only
    refine st_ret w5 (ev_srt (K := K) (ns := src) (ev_var rfl hd5.dq)) fun v8 B8 H8 e8 eB8 w8 h8 => q v8 H8 (srt src) hok (fun hn2 => by omega) (by omega) (fun z => by rw [z] at hlen; have : cnt.toNat = 0 := hlen.symm; omega) (Dq.mono (ex_mi w8.ex w8.tail.no) h8) ((hb5.ext e8).mono (by omega))
end
end Pw

/-! ## K41_beside -/
namespace Pw
open PySem L2 Evl
def fBeside (ds : List PyData) (d : PyData) : Prop := ∃ n ts, ds = [webD n ts] ∧ 0 ≤ n ∧ n ≤ 1000 ∧ ts.length ≤ 1000 ∧ TiesIn n ts ∧ d = nearD n ts
section
variable {P : Program} {w : World} {K : PySem.W.Frag} {mg : Str → Option Value} {base : Heap}
theorem sc_beside : FnScope nm_beside ps_beside (defScope s_beside) := ⟨rfl, rfl, rfl, by decide +kernel, rfl, by decide +kernel, by decide +kernel⟩
theorem ok_beside {f : Addr} {fd : FuncData} (T : Txt mg) (Ds : Defs K mg) (D : Dfn K mg "beside" s_beside ps_beside f fd) : FnOk P w K mg base CX0 1 f fd ps_beside (spD K fBeside) := by
  refine D.F.ok sc_beside (fun vs H Q E h => ?_) (fun cdv A outer s H vs Q E hr h => ?_)
  · obtain ⟨S, B, ds, d, w, hd, ⟨n, ts, rfl, _⟩, _⟩ := h
    exact DqAll.length hd
  · obtain ⟨S, B, ds, d, w, hd, ⟨n, ts, rfl, hn0, hn1, hl, hin, rfl⟩, q⟩ := h
    obtain ⟨v1, rfl, h1⟩ : ∃ v1, vs = [v1] ∧ Dq K B v1 (webD n ts) := by
      cases hd with
      | cons h1 t => cases t; exact ⟨_, rfl, h1⟩
    refine ⟨_, (pss_cons (ps_setLc (i := 1) (own := [("place", 5)]) (g := (gName 5)) (by rfl) sc_beside.nd rfl rfl (sw_true rfl rfl rfl (by decide +kernel)) (pi_range1 (by rfl) T.m_range (pa_cons (pe_ix ix_seq (pv 0) pe_int (fun _ _ => rfl)) pa_nil)) (blkOk_by (own := [("place", 5)]) (N := nm_beside) (sc := defScope s_beside) (by decide +kernel)) (fun _ _ _ _ _ => (pg_name (i := 5) sc_beside.nd rfl (Or.inl rfl))) (fun _ _ _ _ _ => pts_nil) (fun _ _ _ _ _ => (pe_lst pa_nil)))
      (pss_cons (ps_for PassesOwn.never rfl (pi_tup (pe_ix ix_seq (pv 0) pe_int (fun _ _ => rfl))) (pg_tup (by rfl) (pgs_cons (pg_name (i := 2) sc_beside.nd rfl (Or.inl rfl)) (pgs_cons (pg_name (i := 3) sc_beside.nd rfl (Or.inl rfl)) (pgs_cons (pg_name (i := 4) sc_beside.nd rfl (Or.inl rfl)) pgs_nil))))
        (pss_cons (ps_expr (pe_bm PySem.F.plainAttrs_list PySem.F.slot_list_append PySem.F.type_list_append mt_append (pe_ix ix_list (pv 1) (pv 2) (fun _ _ => rfl)) (pa_cons (pv 3) pa_nil)))
        (pss_one (ps_expr (pe_bm PySem.F.plainAttrs_list PySem.F.slot_list_append PySem.F.type_list_append mt_append (pe_ix ix_list (pv 1) (pv 3) (fun _ _ => rfl)) (pa_cons (pv 2) pa_nil))))))
      (pss_one (ps_ret (pv 1))))), ?_⟩
    refine st_set (lists_lc (K := K) (B := B) (S := S) (l := (rngI 0 n.toNat).map .int) (wk_rng1 (ea_cons (ev_ix (t := true) (d := .int n) (ev_var (v := v1) rfl h1) ev_int rfl) ea_nil) (by omega)) (by rw [List.length_map, rngI_len]; omega) (fun _ => by rfl) w fun L ps H1 e1 hL hpl hnd hps hfr => ?_)
    rw [List.length_map, rngI_len] at hpl
    have hdf : ∀ p ∈ L :: ps, ∃ o, H1 p = some o := fun p hp => by
      rcases List.mem_cons.mp hp with rfl | hp
      · exact ⟨_, hL⟩
      · exact ⟨_, hps p hp⟩
    have w1 := w.owns e1 hfr hdf
    rw [List.nodup_cons] at hnd
    have hget : ∀ {j : Nat}, j < n.toNat → ∃ p, ps[j]? = some p := fun {j} hj => ⟨ps[j], List.getElem?_eq_getElem (by omega)⟩
    have hinj : ∀ {i j : Nat} {p : Addr}, ps[i]? = some p → ps[j]? = some p → i = j := fun {i j p} h h' => nodup_at hnd.2 h h'
    refine st_for (K := K) ts tieD w1 (wk_tup (ev_ix (t := true) (ev_var (v := v1) rfl h1) ev_int rfl)) fun B2 H2 e2 eB2 w2 => ⟨fun i σ' H' => Ex H H' ∧ ∃ B' x2 x3 x4, Ex B2 B' ∧ Wd ((L :: ps) ++ S) B' H' ∧ H' L = some (.lst (ps.map V.ref)) ∧ (∀ (j : Nat) p, ps[j]? = some p → H' p = some (.lst ((nb (ts.take i) (j : Int)).map V.int))) ∧ σ' = [some v1, some (.ref L), x2, x3, x4, none],
      ⟨e1.trans e2, B2, none, none, none, Ex.refl _, w2, e2 _ _ hL, fun j p hj => (e2 _ _ (hps p (List.mem_of_getElem? hj))), rfl⟩, ?_, ?_⟩
    · rintro i t σ' H' hi ⟨eH, B', x2, x3, x4, eB', w', hL', hP, rfl⟩
      have hil : i < ts.length := (List.getElem?_eq_some_iff.mp hi).1
      refine ⟨_, B', eB', w', fun x B3 H3 e3 eB3 w3 hx => g_tie hx w3.ex ?_⟩
      obtain ⟨t1, t2, t3⟩ := hin t (List.mem_of_getElem? hi)
      obtain ⟨pa, hpa⟩ := hget (j := t.1.toNat) (by omega)
      obtain ⟨pb, hpb⟩ := hget (j := t.2.1.toNat) (by omega)
      have nab : pa ≠ pb := fun z => by
        have := hinj hpa (z ▸ hpb)
        omega
      have ma := List.mem_of_getElem? hpa
      have mb := List.mem_of_getElem? hpb
      have hpaA := e3 _ _ (hP _ _ hpa)
      have hpbA := e3 _ _ (hP _ _ hpb)
      have hL3 := e3 _ _ hL'
      have nLa : L ≠ pa := fun z => hnd.1 (z ▸ ma)
      have nLb : L ≠ pb := fun z => hnd.1 (z ▸ mb)
      have hlen : ∀ p : Int, ((nb (ts.take i) p).map V.int).length ≤ 40000 := fun p => by
        rw [List.length_map]
        have h2 := nb_len (ts.take i) p
        rw [List.length_take] at h2
        omega
      refine st_appAt (L := L) (ps := ps) (p := pa) rfl rfl rfl hL3 (atI_at t1 (by rw [List.getElem?_map, hpa]; rfl)) hpaA (hlen _) ?_
      refine st_appAt (L := L) (ps := ps) (p := pb) rfl rfl rfl (by rw [upd_ne nLa]; exact hL3) (atI_at (by omega) (by rw [List.getElem?_map, hpb]; rfl)) (by rw [upd_ne nab.symm]; exact hpbA) (hlen _) ?_
      have frA : H pa = none := hfr pa (List.mem_cons_of_mem _ ma)
      have frB : H pb = none := hfr pb (List.mem_cons_of_mem _ mb)
      refine ⟨((eH.trans e3).mut frA).mut frB, B3, _, _, _, eB'.trans eB3, (w3.put (List.mem_append_left _ (List.mem_cons_of_mem _ ma))).put (List.mem_append_left _ (List.mem_cons_of_mem _ mb)), (by rw [upd_ne nLb, upd_ne nLa]; exact hL3), fun j p hj => ?_, rfl⟩
      rw [List.take_add_one, hi, Option.toList_some, nb_snoc]
      by_cases ja : j = t.1.toNat
      · subst ja
        have e : p = pa := Option.some.inj (hj.symm.trans hpa)
        subst e
        rw [upd_ne nab, upd_same, show ((t.1.toNat : Nat) : Int) = t.1 by omega, if_pos rfl, List.map_append]
        rfl
      · by_cases jb : j = t.2.1.toNat
        · subst jb
          have e : p = pb := Option.some.inj (hj.symm.trans hpb)
          subst e
          rw [upd_same, show ((t.2.1.toNat : Nat) : Int) = t.2.1 by omega, if_neg (by omega), if_pos rfl, List.map_append]
          rfl
        · have na : p ≠ pa := fun z => ja (hinj (z ▸ hj) hpa)
          have nb' : p ≠ pb := fun z => jb (hinj (z ▸ hj) hpb)
          rw [upd_ne nb', upd_ne na, if_neg (by omega), if_neg (by omega), List.append_nil]
          exact e3 _ _ (hP j p hj)
    · rintro σ' H' ⟨eH, B', x2, x3, x4, eB', w', hL', hP, rfl⟩
      refine ⟨⟨_, B', eB', w'⟩, ?_⟩
      rw [List.take_length] at hP
      have hns : ∀ p ∈ L :: ps, p ∉ S := fun p hp => w.nin (hfr p hp)
      refine ⟨_, rfl, q (.ref L) (mi H' S) H' eH (ex_mi (w.ex.trans eH) w.no) (w.step eH) (.lst (sq_of (by rw [mi_at (hns L List.mem_cons_self)]; exact hL')) (dqAll_of (by rw [List.length_map, List.length_map, rngI_len]; exact hpl) fun j v d hv hd => ?_))⟩
      rw [List.getElem?_map] at hv hd
      obtain ⟨p, hp, rfl⟩ := Option.map_eq_some_iff.mp hv
      have hj : j < n.toNat := by
        have := (List.getElem?_eq_some_iff.mp hp).1
        omega
      rw [rngI_get hj] at hd
      cases hd
      rw [show (0 : Int) + (j : Int) = (j : Int) by omega]
      exact .lst (sq_of (by rw [mi_at (hns p (List.mem_cons_of_mem _ (List.mem_of_getElem? hp)))]; exact hP j p hp)) DqAll.ints
end
end Pw

/-! ## K41_hung -/
namespace Pw
open PySem L2 Evl
def parD (par : Int → Int) (c : Int) : PyData := if c = 0 then .none else .int (par c)
def intO (L : List Int) : OD := .c .lst ((L.map PyData.int).map .d)
def aboO (L : List Int) (par : Int → Int) : OD := .c (.dK (kI L)) (L.map fun c => .d (parD par c))
def hungO (L : List Int) (par : Int → Int) : OD := .t [intO L, aboO L par]
def fHung (os : List OD) (post : OD → Prop) : Prop := ∃ (n : Int) (ts : List Tie), os = [.d (webD n ts)] ∧ TreeW n ts ∧ n ≤ 60 ∧ post = fun r => ∃ L par, Hung n ts L par ∧ r = hungO L par
structure HungI (n : Int) (ts : List Tie) (L : List Int) (par : Int → Int) : Prop where
  nd : L.Nodup
  rng : ∀ x ∈ L, 0 ≤ x ∧ x < n
  fst : L[0]? = some 0
  up : ∀ (i : Nat) (c : Int), L[i + 1]? = some c → ∃ j, j ≤ i ∧ L[j]? = some (par c) ∧ Adj ts (par c) c
def parW (par : Int → Int) (y x : Int) : Int → Int := fun c => if c = y then x else par c
theorem HungI.few {n : Int} {ts : List Tie} {L : List Int} {par : Int → Int} (h : HungI n ts L par) : L.length ≤ n.toNat := few_in h.nd fun k hk => by
  have := h.rng k hk
  omega
theorem HungI.more {n : Int} {ts : List Tie} {L : List Int} {par : Int → Int} (h : HungI n ts L par) {k : Nat} {x y : Int} (hk : L[k]? = some x) (hy : y ∉ L) (hr : 0 ≤ y ∧ y < n) (ha : Adj ts x y) : HungI n ts (L ++ [y]) (parW par y x) where
  nd := List.nodup_append.mpr ⟨h.nd, List.nodup_cons.mpr ⟨List.not_mem_nil, List.nodup_nil⟩, fun a ha b hb e => by
    rw [List.mem_singleton.mp hb] at e
    exact hy (e ▸ ha)⟩
  rng := fun z hz => by
    rcases List.mem_append.mp hz with hz | hz
    · exact h.rng z hz
    · rw [List.mem_singleton.mp hz]
      exact hr
  fst := by
    have := (List.getElem?_eq_some_iff.mp h.fst).1
    rw [List.getElem?_append_left this]
    exact h.fst
  up := fun i c hc => by
    have hkl := (List.getElem?_eq_some_iff.mp hk).1
    by_cases hi : i + 1 < L.length
    · rw [List.getElem?_append_left hi] at hc
      obtain ⟨j, hj, hp, ha⟩ := h.up i c hc
      have hcy : c ≠ y := fun z => hy (z ▸ List.mem_of_getElem? hc)
      have hjl := (List.getElem?_eq_some_iff.mp hp).1
      refine ⟨j, hj, ?_, ?_⟩
      · rw [List.getElem?_append_left hjl]
        unfold parW
        rw [if_neg hcy]
        exact hp
      · unfold parW
        rw [if_neg hcy]
        exact ha
    · have hil := (List.getElem?_eq_some_iff.mp hc).1
      rw [List.length_append] at hil
      have hil2 : i + 1 < L.length + 1 := hil
      have e : i + 1 = L.length := by omega
      rw [e, List.getElem?_concat_length] at hc
      cases hc
      refine ⟨k, by omega, ?_, ?_⟩
      · rw [List.getElem?_append_left hkl]
        unfold parW
        rw [if_pos rfl]
        exact hk
      · unfold parW
        rw [if_pos rfl]
        exact ha
theorem abo_more {L : List Int} {par : Int → Int} {x y : Int} (hy : y ∉ L) (h0 : y ≠ 0) : (L.map fun c => OD.d (parD par c)) ++ [.d (.int x)] = (L ++ [y]).map fun c => OD.d (parD (parW par y x) c) := by
  rw [List.map_append]
  congr 1
  · refine List.map_congr_left fun c hc => ?_
    have hcy : c ≠ y := fun z => hy (z ▸ hc)
    unfold parD parW
    rw [if_neg hcy]
  · show [OD.d (.int x)] = [OD.d (parD (parW par y x) y)]
    unfold parD parW
    rw [if_neg h0, if_pos rfl]

section
variable {P : Program} {w : World} {K : PySem.W.Frag} {mg : Str → Option Value} {base : Heap}
theorem sc_hung : FnScope nm_hung ps_hung (defScope s_hung) := ⟨rfl, rfl, rfl, by decide +kernel, rfl, by decide +kernel, by decide +kernel⟩
theorem ok_hung {f : Addr} {fd : FuncData} (T : Txt mg) (Ds : Defs K mg) (D : Dfn K mg "hung" s_hung ps_hung f fd) : FnOk P w K mg base CX0 2 f fd ps_hung (spT K fHung) := by
  obtain ⟨f_beside, fd_beside, D_beside⟩ := Ds.d_beside
  have G_beside := ok_beside (P := P) (w := w) (base := base) T Ds D_beside
  refine D.F.ok sc_hung (fun vs H Q E h => ?_) (fun cdv A outer s H vs Q E hr h => ?_)
  · obtain ⟨S, B, os, post, w, hd, ⟨n, ts, rfl, _⟩, _⟩ := h
    exact TqAll.length hd
  · obtain ⟨S, B, os, post, w, hd, ⟨n, ts, rfl, hT, hn, rfl⟩, q⟩ := h
    have hr_beside := hr.mono (show 1 ≤ 1 by decide)
    obtain ⟨v1, rfl, h1⟩ := tq1 hd
    replace h1 := h1.dq
    have hu := hu_of hr
    refine ⟨_, (pss_cons (ps_set (i := 1) sc_hung.nd rfl (Or.inl rfl) (pe_call G_beside hr_beside (by rfl) D_beside.g D_beside.F.kp D_beside.b .nil pass0 (pa_cons (pv 0) pa_nil)))
      (pss_cons (ps_set (i := 2) sc_hung.nd rfl (Or.inl rfl) (pe_disp (pps_cons pe_int pe_non pps_nil) rfl rfl (List.cons_ne_nil _ _) (Nat.le_of_ble_eq_true rfl)))
      (pss_cons (ps_set (i := 3) sc_hung.nd rfl (Or.inl rfl) (pe_lst (pa_cons pe_int pa_nil)))
      (pss_cons (ps_set (i := 4) sc_hung.nd rfl (Or.inl rfl) pe_int)
      (pss_cons (ps_while PassesOwn.never (pt_cmpR op_lt (pv 4) (pe_callB call_len_seq (by rfl) T.m_len (by decide +kernel) (pa_cons (pv 3) pa_nil)) (nomark _))
        (pss_cons (ps_set (i := 5) sc_hung.nd rfl (Or.inl rfl) (pe_ix ix_list (pv 3) (pv 4) (fun _ _ => rfl)))
        (pss_cons (ps_aug (i := 4) sc_hung.nd rfl (Or.inl rfl) pe_int ip_add)
        (pss_one (ps_for PassesOwn.never rfl (pi_list (pe_ix ix_list (pv 1) (pv 5) (fun _ _ => rfl))) (pg_name (i := 6) sc_hung.nd rfl (Or.inl rfl))
          (pss_one (ps_if (pt_cmp (pc_dnotin hu (pv 6) (pv 2)))
            (pss_cons (ps_dput hu (pv 2) (pv 6) (pv 5) rfl)
            (pss_one (ps_expr (pe_bm PySem.F.plainAttrs_list PySem.F.slot_list_append PySem.F.type_list_append mt_append (pv 3) (pa_cons (pv 6) pa_nil)))))
            pss_nil)))))))
      (pss_one (ps_ret (pe_tup (pa_cons (pv 3) (pa_cons (pv 2) pa_nil)))))))))), ?_⟩
    refine fn_T w (sl_some (s := .d _) h1 (sl_none (sl_none (sl_none (sl_none (sl_none (sl_none sl_nil))))))) rfl ?_ q
    have hin := hT.web.ins
    have htl := hT.web.len
    have hpos := hT.web.pos
    refine s_seq (s_asg (d := nearD n ts) (n_call (f := fBeside) (na_cons (n_rd rfl rfl) na_nil) ⟨n, ts, rfl, by omega, by omega, by omega, hin, rfl⟩) ?_)
    refine s_seq (s_asgN (xf_ft (o := .c (.dK (kI [0])) [.d .none]) (ft_disp1 n_int (ft_d n_non))).x fun o Γ' ⟨e1, e2⟩ As => ?_)
    subst e1 e2
    refine s_seq (s_new (na_cons n_int na_nil) (Nat.le_of_ble_eq_true rfl) ?_)
    refine s_seq (s_asg n_int ?_)
    refine s_seq (s_while (W := fun m Γ' => ∃ (L : List Int) (par : Int → Int) (a : Nat) (As : List Addr) (x5 x6 : Option Sl), m = n.toNat - a ∧ Γ' = [some (.d (webD n ts)), some (.d (nearD n ts)), some (nT K (aboO L par) As), some (.o .lst (L.map .int)), some (.d (.int (a : Nat))), x5, x6] ∧ HungI n ts L par ∧ a ≤ L.length ∧ ∀ j x, j < a → L[j]? = some x → ∀ y, Adj ts x y → y ∈ L) ⟨n.toNat, [0], fun _ => 0, 0, As, none, none, by omega, rfl, ⟨List.nodup_cons.mpr ⟨List.not_mem_nil, List.nodup_nil⟩, fun x hx => by rw [List.mem_singleton.mp hx]; omega, rfl, fun i c h => by simp at h⟩, Nat.zero_le _, fun j x h => absurd h (Nat.not_lt_zero j)⟩ fun m Γ' hW' => ?_)
    obtain ⟨L, par, a, As, x5, x6, rfl, rfl, hL, hal, hdone⟩ := hW'
    have hLl := hL.few
    refine ⟨_, nb_test (n_cmp (n_rd rfl rfl) (n_len (t := false) (ds := L.map .int) (n_o rfl))), fun hb => ?_, fun hb => ?_⟩
    · have hb1 : a < L.length := by
        have := of_decide_eq_true hb
        rw [List.length_map] at this
        omega
      obtain ⟨x, hx⟩ : ∃ x, L[a]? = some x := ⟨_, List.getElem?_eq_getElem hb1⟩
      have hxL := hL.rng x (List.mem_of_getElem? hx)
      refine s_seq (s_asgA (d := .int x) (n_ixL (n_o rfl) (n_rd rfl rfl) (atI_nat (by rw [List.getElem?_map, hx]; rfl))) rfl ?_)
      refine s_seq (s_aug rfl n_int ?_)
      have hnl := nb_len ts x
      refine s_for (nb ts x) PyData.int (nw_list (n_ixL (ds := (rngI 0 n.toNat).map fun p => .list ((nb ts p).map .int)) (n_rd rfl rfl) (n_rd rfl rfl) (atI_at (by omega) (by rw [List.getElem?_map, rngI_get (by omega)]; rw [show (0 : Int) + ((x.toNat : Nat) : Int) = x by omega]; rfl)))) (fun j Γ' => ∃ (L' : List Int) (par' : Int → Int) (As' : List Addr) (x6' : Option Sl), Γ' = [some (.d (webD n ts)), some (.d (nearD n ts)), some (nT K (aboO L' par') As'), some (.o .lst (L'.map .int)), some (.d (.int ((a : Nat) + 1))), some (.d (.int x)), x6'] ∧ HungI n ts L' par' ∧ (∃ r, L' = L ++ r) ∧ ∀ y ∈ (nb ts x).take j, y ∈ L') ⟨L, par, As, x6, rfl, hL, ⟨[], (List.append_nil _).symm⟩, fun y hy => by rw [List.take_zero] at hy; cases hy⟩ (fun j y Γ' hy hI => ⟨_, gt_1, ?_⟩) (fun Γ' hI => ?_)
      · obtain ⟨L', par', As', x6', rfl, hL', ⟨r, rfl⟩, hd⟩ := hI
        have hya := (nb_mem hin).mp (List.mem_of_getElem? hy)
        have hyr := Conn.range hin (.tail .refl hya) hxL
        have hll := hL'.few
        have hxk : (L ++ r)[a]? = some x := by rw [List.getElem?_append_left hb1]; exact hx
        have hs : ∀ {L2 : List Int}, (∀ z ∈ L ++ r, z ∈ L2) → y ∈ L2 → ∀ z ∈ (nb ts x).take (j + 1), z ∈ L2 := fun {L2} h1 h2 z hz => by
          rw [List.take_add_one, hy] at hz
          rcases List.mem_append.mp hz with hz | hz
          · exact h1 z (hd z hz)
          · have : z = y := by simpa using hz
            rw [this]
            exact h2
        refine s_if (b := !decide (y ∈ L ++ r)) (nb_B (n_dninP (ki := L ++ r) (os := (L ++ r).map fun c => .d (parD par' c)) (n_rd rfl rfl) ep_var (it_o rfl) rfl hL'.nd)) (fun h8 => ?_) (fun h8 => s_next ?_)
        · have hny : y ∉ L ++ r := by
            rw [Bool.not_eq_true'] at h8
            exact of_decide_eq_false h8
          have h0 : y ≠ 0 := fun z => hny (z ▸ List.mem_of_getElem? hL'.fst)
          have hmore := hL'.more hxk hny hyr hya
          refine s_seq (s_dputT (ki := L ++ r) (z := y) (xf_a (d := .int x) (n_rd rfl rfl) rfl).x fun o' Γ' ⟨e1, e2⟩ => ?_)
          subst e1 e2
          refine ⟨none, 2, [], aboO (L ++ r) par', As', _, ⟨rfl, ep_var, rfl⟩, hL'.nd, by omega, n_rd rfl rfl, .inr ⟨hny, fun As2 => ?_⟩⟩
          refine s_appA (ds := (L ++ r).map .int) (d := .int y) rfl (by rw [List.length_map]; omega) (n_rd rfl rfl) rfl ⟨L ++ r ++ [y], parW par' y x, As2, some (.d (.int y)), ?_, hmore, ⟨r ++ [y], by rw [List.append_assoc]⟩, hs (fun z hz => List.mem_append_left _ hz) (List.mem_append_right _ (List.mem_singleton.mpr rfl))⟩
          unfold OD.put aboO
          rw [abo_more hny h0, show (L ++ r ++ [y]).map PyData.int = (L ++ r).map .int ++ [.int y] from List.map_append]
          rfl
        · have hmy : y ∈ L ++ r := by
            rw [Bool.not_eq_false'] at h8
            exact of_decide_eq_true h8
          exact ⟨L ++ r, par', As', _, rfl, hL', ⟨r, rfl⟩, hs (fun z hz => hz) hmy⟩
      · obtain ⟨L', par', As', x6', rfl, hL', ⟨r, rfl⟩, hd⟩ := hI
        rw [List.take_length] at hd
        refine ⟨n.toNat - (a + 1), by omega, L ++ r, par', a + 1, As', _, _, rfl, rfl, hL', by rw [List.length_append]; omega, fun j z hj hz y hy => ?_⟩
        by_cases e : j < a
        · rw [List.getElem?_append_left (by omega)] at hz
          exact List.mem_append_left _ (hdone j z e hz y hy)
        · have : j = a := by omega
          subst this
          rw [List.getElem?_append_left hb1, hx] at hz
          cases hz
          exact hd y ((nb_mem hin).mpr hy)
    · have hb1 : a = L.length := by
        have := of_decide_eq_false hb
        rw [List.length_map] at this
        omega
      have hall : ∀ z, 0 ≤ z ∧ z < n → z ∈ L := fun z hz => by
        have c := hT.con 0 z (by omega) hz
        clear hz
        induction c with
        | refl => exact List.mem_of_getElem? hL.fst
        | @tail b c _ ad ih =>
          obtain ⟨j, hj⟩ := List.getElem?_of_mem ih
          exact hdone j b (by rw [hb1]; exact (List.getElem?_eq_some_iff.mp hj).1) hj c ad
      have hH : Hung n ts L par := ⟨(List.perm_ext_iff_of_nodup hL.nd (rngI_nd _ _)).mpr fun z => ⟨fun hz => rngI_mem.mpr (by have := hL.rng z hz; omega), fun hz => hall z (by have := rngI_mem.mp hz; omega)⟩, hL.fst, hL.up⟩
      exact s_retT (xf_pair (i := 3) (j := 2) (by decide) (io_o rfl) (io_n rfl)).x fun o Γ' ⟨e, _⟩ => ⟨L, par, hH, e⟩
end
end Pw

/-! ## K41_weights_above -/
namespace Pw
open PySem L2 Evl
def wtsO (ts : List Tie) (par : Int → Int) (C : List Int) : OD := .c (.dK (kI C)) (C.map fun c => .d (.int (wUp ts par c)))
def fWAbove (os : List OD) (post : OD → Prop) : Prop := ∃ (n : Int) (ts : List Tie) (L : List Int) (par : Int → Int), os = [.d (webD n ts), aboO L par] ∧ TreeW n ts ∧ Hung n ts L par ∧ n ≤ 60 ∧ post = fun r => ∃ C, C.Nodup ∧ (∀ c, c ∈ C ↔ 0 < c ∧ c < n) ∧ r = wtsO ts par C
/-- the place of a tie that hangs by it -/
def lowT (par : Int → Int) (t : Tie) : Int := if t.2.1 ≠ 0 ∧ par t.2.1 = t.1 then t.2.1 else t.1
theorem low_ok {n : Int} {ts : List Tie} {L : List Int} {par : Int → Int} (T : TreeW n ts) (h : Hung n ts L par) {t : Tie} (ht : t ∈ ts) : (0 < lowT par t ∧ lowT par t < n) ∧ (t.1 = par (lowT par t) ∧ t.2.1 = lowT par t ∨ t.1 = lowT par t ∧ t.2.1 = par (lowT par t)) := by
  have hr := T.web.tie t ht
  obtain ⟨c, hc, e⟩ := h.tie T ht
  unfold lowT
  by_cases z : t.2.1 ≠ 0 ∧ par t.2.1 = t.1
  · rw [if_pos z]
    exact ⟨by omega, .inl ⟨z.2.symm, rfl⟩⟩
  · rw [if_neg z]
    rcases e with ⟨h1, h2⟩ | ⟨h1, h2⟩
    · exact absurd ⟨by omega, by rw [h2, h1]⟩ z
    · rw [h1]
      exact ⟨hc, .inr ⟨rfl, h2⟩⟩
theorem low_one {n : Int} {ts : List Tie} {L : List Int} {par : Int → Int} (T : TreeW n ts) (h : Hung n ts L par) {t u : Tie} (ht : t ∈ ts) (hu : u ∈ ts) (e : lowT par t = lowT par u) : t = u := by
  have h1 := (low_ok T h ht).2
  have h2 := (low_ok T h hu).2
  have r1 := T.web.tie t ht
  have r2 := T.web.tie u hu
  rw [e] at h1
  exact tie_one T.web ht hu (by rw [Prod.mk.injEq]; omega)

section
variable {P : Program} {w : World} {K : PySem.W.Frag} {mg : Str → Option Value} {base : Heap}
theorem sc_weights_above : FnScope nm_weights_above ps_weights_above (defScope s_weights_above) := ⟨rfl, rfl, rfl, by decide +kernel, rfl, by decide +kernel, by decide +kernel⟩
theorem ok_weights_above {f : Addr} {fd : FuncData} (T : Txt mg) (Ds : Defs K mg) (D : Dfn K mg "weights_above" s_weights_above ps_weights_above f fd) : FnOk P w K mg base CX0 1 f fd ps_weights_above (spT K fWAbove) := by
  refine D.F.ok sc_weights_above (fun vs H Q E h => ?_) (fun cdv A outer s H vs Q E hr h => ?_)
  · obtain ⟨S, B, os, post, w, hd, ⟨n, ts, L, par, rfl, _⟩, _⟩ := h
    exact TqAll.length hd
  · obtain ⟨S, B, os, post, w, hd, ⟨n, ts, L, par, rfl, hT, hH, hn, rfl⟩, q⟩ := h
    obtain ⟨v1, v2, rfl, h1, h2⟩ := tq2 hd
    replace h1 := h1.dq
    have hu := hu_of hr
    refine ⟨_, (pss_cons (ps_set (i := 2) sc_weights_above.nd rfl (Or.inl rfl) pe_dnewK)
      (pss_cons (ps_for PassesOwn.never rfl (pi_tup (pe_ix ix_tup (pv 0) pe_int (fun _ _ => rfl))) (pg_tup (by rfl) (pgs_cons (pg_name (i := 3) sc_weights_above.nd rfl (Or.inl rfl)) (pgs_cons (pg_name (i := 4) sc_weights_above.nd rfl (Or.inl rfl)) (pgs_cons (pg_name (i := 5) sc_weights_above.nd rfl (Or.inl rfl)) pgs_nil))))
        (pss_one (ps_dput hu (pv 2) (pe_ifExp (pt_cmpR (r := rEqD K) (op_eqD hr.units) (pe_dget hu (pv 1) (pv 4) (fun _ _ => rfl)) (pv 3) (nomark _)) (pv 4) (pv 3)) (pv 5) rfl)))
      (pss_one (ps_ret (pv 2))))), ?_⟩
    refine fn_T w (sl_some (s := .d _) h1 (sl_some (s := .q (TRq K _)) ⟨stays_TRq, h2⟩ (sl_none (sl_none (sl_none (sl_none sl_nil)))))) rfl ?_ q
    have hin := hT.web.ins
    have htl := hT.web.len
    have hpos := hT.web.pos
    refine s_seq (s_asgN (xf_dnewK).x fun o Γ' ⟨e1, e2⟩ As => ?_)
    subst e1 e2
    refine s_seq (s_for ts tieD (nw_tup (n_ixT (d := .tuple (ts.map tieD)) (n_rd rfl rfl) n_int rfl)) (fun i Γ' => ∃ (As : List Addr) (x3 x4 x5 : Option Sl), Γ' = [some (.d (webD n ts)), some (.q (TRq K (aboO L par))), some (nT K (wtsO ts par ((ts.take i).map (lowT par))) As), x3, x4, x5]) ⟨As, none, none, none, by rw [List.take_zero]; rfl⟩ (fun i t Γ' ht hI => ⟨_, gt_tup rfl (gts_cons gt_1 (gts_cons gt_1 (gts_cons gt_1 gts_nil))), ?_⟩) (fun Γ' hI => ?_))
    · obtain ⟨As, x3, x4, x5, rfl⟩ := hI
      have htm := List.mem_of_getElem? ht
      have hr := hin t htm
      have hil := (List.getElem?_eq_some_iff.mp ht).1
      obtain ⟨hlow, hlow2⟩ := low_ok hT hH htm
      obtain ⟨k, hk⟩ := List.getElem?_of_mem (hH.mem.mpr (show 0 ≤ t.2.1 ∧ t.2.1 < n by omega))
      have hnew : lowT par t ∉ (ts.take i).map (lowT par) := fun z => by
        obtain ⟨u, hu, e⟩ := List.mem_map.mp z
        have := low_one hT hH (List.mem_of_mem_take hu) htm e
        subst this
        obtain ⟨m, hm⟩ := List.getElem?_of_mem hu
        rw [List.getElem?_take] at hm
        split at hm
        · have h1 := List.pairwise_iff_getElem.mp hT.web.rise m i (List.getElem?_eq_some_iff.mp hm).1 hil (by omega)
          rw [(List.getElem?_eq_some_iff.mp hm).2, (List.getElem?_eq_some_iff.mp ht).2] at h1
          unfold pairLt at h1
          omega
        · cases hm
      have hnd : ((ts.take i).map (lowT par)).Nodup := List.pairwise_map.mpr (((List.Pairwise.sublist (List.take_sublist i ts) hT.web.rise)).imp_of_mem fun {a b} ha hb hab e => by
        have := low_one hT hH (List.mem_of_mem_take ha) (List.mem_of_mem_take hb) e
        subst this
        unfold pairLt at hab
        omega)
      have hw : wUp ts par (lowT par t) = t.2.2 := wUp_at hT htm hlow2
      refine s_dputT (ki := (ts.take i).map (lowT par)) (z := lowT par t) (xf_a (d := .int t.2.2) (n_rd rfl rfl) rfl).x fun o' Γ' ⟨e1, e2⟩ => ?_
      subst e1 e2
      refine ⟨none, 2, [], wtsO ts par ((ts.take i).map (lowT par)), As, _, ⟨rfl, ep_var, rfl⟩, hnd, by rw [List.length_map, List.length_take]; omega, ?key, .inr ⟨hnew, fun As2 => ⟨As2, some (.d (.int t.1)), some (.d (.int t.2.1)), some (.d (.int t.2.2)), ?fin⟩⟩⟩
      case key =>
        refine n_is (n_if (b := decide (t.2.1 ≠ 0 ∧ par t.2.1 = t.1)) (d := .int (lowT par t)) (nb_test (n_is (n_eqD (d := parD par t.2.1) (d' := .int t.1) (n_at (ep_dget (ki := L) (os := L.map fun c => .d (parD par c)) (j := k) ep_var (it_q rfl) rfl (n_rd rfl rfl) hH.nd hk) (it_q rfl) (sub := .d (parD par t.2.1)) ?sub rfl) (n_rd rfl rfl) ?s1 rfl) ?eqv)) (fun h => ?a) (fun h => ?b)) rfl
        case sub =>
          show ((aboO L par).get [k]) = _
          unfold aboO OD.get
          rw [List.getElem?_map, hk]
          rfl
        case s1 =>
          unfold parD
          split <;> rfl
        case eqv =>
          congr 1
          unfold parD
          by_cases z : t.2.1 = 0
          · rw [if_pos z, decide_eq_false fun y => y.1 z]
            rfl
          · rw [if_neg z]
            show PyData.eqv (.int (par t.2.1)) (.int t.1) = _
            unfold PyData.eqv
            rw [Bool.eq_iff_iff]
            simp [z]
        case a =>
          have h := of_decide_eq_true h
          exact n_is (n_rd (d := .int t.2.1) rfl rfl) (by unfold lowT; rw [if_pos h])
        case b =>
          have h := of_decide_eq_false h
          exact n_is (n_rd (d := .int t.1) rfl rfl) (by unfold lowT; rw [if_neg h])
      case fin =>
        rw [List.take_add_one, ht]
        unfold OD.put wtsO
        rw [show (ts.take i ++ (some t).toList).map (lowT par) = (ts.take i).map (lowT par) ++ [lowT par t] by rw [List.map_append]; rfl, List.map_append (f := fun c => OD.d (.int (wUp ts par c)))]
        show _ = [_, _, some (nT K (.c _ (_ ++ [OD.d (.int (wUp ts par (lowT par t)))])) As2), _, _, _]
        rw [hw]
        rfl
    obtain ⟨As, x3, x4, x5, rfl⟩ := hI
    rw [List.take_length]
    refine s_retT (xf_var rfl).x fun o Γ' ⟨e, _⟩ => ⟨ts.map (lowT par), ?_, fun c => ⟨fun hc => ?_, fun hc => ?_⟩, e⟩
    · exact List.pairwise_map.mpr (hT.web.rise.imp_of_mem fun {a b} ha hb hab e => by
        have := low_one hT hH ha hb e
        subst this
        unfold pairLt at hab
        omega)
    · obtain ⟨t, ht, rfl⟩ := List.mem_map.mp hc
      exact (low_ok hT hH ht).1
    · obtain ⟨_, _, t, ht, e⟩ := hH.par_rng hc
      refine List.mem_map.mpr ⟨t, ht, ?_⟩
      obtain ⟨h1, h2⟩ := low_ok hT hH ht
      have hr := hT.web.tie t ht
      by_cases z : lowT par t = c
      · exact z
      · exfalso
        have hx : lowT par t = par c ∧ par (lowT par t) = c := by omega
        obtain ⟨i, hi⟩ := hH.idx hc
        obtain ⟨i', hi', hp⟩ := hH.above i c hi
        obtain ⟨j, hj⟩ := hH.idx h1
        obtain ⟨j', hj', hq⟩ := hH.above j _ hj
        rw [hx.2] at hq
        rw [hx.1] at hj
        have := nd_at hH.nd hp hj
        have := nd_at hH.nd hq hi
        omega
end
end Pw

/-! ## K41_places_behind -/
namespace Pw
open PySem L2 Evl
def kidsAt (par : Int → Int) (D : List Int) (p : Int) : List Int := D.filter fun c => decide (par c = p)
def behO (par : Int → Int) (L D : List Int) : OD := .c (.dK (kI L)) (L.map fun p => intO (kidsAt par D p))
def fBehind (os : List OD) (post : OD → Prop) : Prop := ∃ (oL : OD) (n : Int) (ts : List Tie) (L : List Int) (par : Int → Int), os = [oL, aboO L par] ∧ oL.asD = some (.list (L.map .int)) ∧ Hung n ts L par ∧ n ≤ 60 ∧ post = fun r => r = behO par L (L.drop 1)
theorem kids_snoc (par : Int → Int) (D : List Int) (c p : Int) : kidsAt par (D ++ [c]) p = if par c = p then kidsAt par D p ++ [c] else kidsAt par D p := by
  unfold kidsAt
  rw [List.filter_append]
  by_cases e : par c = p
  · rw [if_pos e, List.filter_cons, if_pos (decide_eq_true e)]
    rfl
  · rw [if_neg e, List.filter_cons, if_neg (by rw [decide_eq_false e]; decide)]
    exact List.append_nil _
theorem beh_put {par : Int → Int} {L D : List Int} {c : Int} {j : Nat} (hn : L.Nodup) (hj : L[j]? = some (par c)) : (L.map fun p => intO (kidsAt par D p)).set j (intO (kidsAt par D (par c) ++ [c])) = L.map fun p => intO (kidsAt par (D ++ [c]) p) := by
  refine List.ext_getElem? fun k => ?_
  rw [List.getElem?_map]
  by_cases e : j = k
  · subst e
    have hjl := (List.getElem?_eq_some_iff.mp hj).1
    rw [List.getElem?_set_self (by rw [List.length_map]; exact hjl), hj]
    show _ = some (intO (kidsAt par (D ++ [c]) (par c)))
    rw [kids_snoc, if_pos rfl]
  · rw [List.getElem?_set_ne e, List.getElem?_map]
    cases hk : L[k]? with
    | none => rfl
    | some p =>
      show some (intO _) = some (intO _)
      rw [kids_snoc, if_neg fun z : par c = p => e (nd_at hn (z ▸ hj) hk)]

section
variable {P : Program} {w : World} {K : PySem.W.Frag} {mg : Str → Option Value} {base : Heap}
theorem sc_places_behind : FnScope nm_places_behind ps_places_behind (defScope s_places_behind) := ⟨rfl, rfl, rfl, by decide +kernel, rfl, by decide +kernel, by decide +kernel⟩
theorem ok_places_behind {f : Addr} {fd : FuncData} (T : Txt mg) (Ds : Defs K mg) (D : Dfn K mg "places_behind" s_places_behind ps_places_behind f fd) : FnOk P w K mg base CX0 1 f fd ps_places_behind (spT K fBehind) := by
  refine D.F.ok sc_places_behind (fun vs H Q E h => ?_) (fun cdv A outer s H vs Q E hr h => ?_)
  · obtain ⟨S, B, os, post, w, hd, ⟨oL, n, ts, L, par, rfl, _⟩, _⟩ := h
    exact TqAll.length hd
  · obtain ⟨S, B, os, post, w, hd, ⟨oL, n, ts, L, par, rfl, hL, hH, hn, rfl⟩, q⟩ := h
    obtain ⟨v1, v2, rfl, h1, h2⟩ := tq2 hd
    have hu := hu_of hr
    refine ⟨_, (pss_cons (ps_set (i := 2) sc_places_behind.nd rfl (Or.inl rfl) (pe_callTy (call_dictP rfl) (by rfl) T.m_dict (by decide +kernel) (pa_cons (pe_lc (own := [("place", 3)]) (g := (gName 3)) (by rfl) sc_places_behind.nd (pi_list (pv 0)) (blkOk_by (own := [("place", 3)]) (N := nm_places_behind) (sc := defScope s_places_behind) (by decide +kernel)) (fun _ _ _ _ _ => (pg_name (i := 3) sc_places_behind.nd rfl (Or.inl rfl))) (fun _ _ _ _ _ => pts_nil) (fun _ _ _ _ _ => (pe_tup (pa_cons (pv 3) (pa_cons (pe_lst pa_nil) pa_nil))))) pa_nil)))
      (pss_cons (ps_for PassesOwn.never rfl (pi_list (pe_slice sl_list (pv 0) (po_some pe_int) po_none)) (pg_name (i := 3) sc_places_behind.nd rfl (Or.inl rfl))
        (pss_one (ps_expr (pe_bm PySem.F.plainAttrs_list PySem.F.slot_list_append PySem.F.type_list_append mt_append (pe_dget hu (pv 2) (pe_dget hu (pv 1) (pv 3) (fun _ _ => rfl)) (fun _ _ => rfl)) (pa_cons (pv 3) pa_nil)))))
      (pss_one (ps_ret (pv 2))))), ?_⟩
    refine fn_T w (sl_some (s := .q (TRq K _)) ⟨stays_TRq, h1⟩ (sl_some (s := .q (TRq K _)) ⟨stays_TRq, h2⟩ (sl_none (sl_none sl_nil)))) rfl ?_ q
    have hLl := hH.len
    have hL0 := hH.fst
    refine s_seq (s_asgN (xf_ft (o := behO par L []) (ft_dictP (ks := L) (os := L.map fun p => intO (kidsAt par [] p)) ?mk (by rw [List.length_map]) hH.nd)).x fun o Γ' ⟨e1, e2⟩ As => ?_)
    case mk =>
      have e : (L.zip (L.map fun p => intO (kidsAt par [] p))).map (fun q => OD.t [.d (.int q.1), q.2]) = L.map fun p => OD.t [.d (.int p), .c .lst []] := by
        rw [List.zip_map_right, List.map_map]
        refine List.ext_getElem? fun k => ?_
        rw [List.getElem?_map, List.getElem?_map]
        by_cases hk : k < L.length
        · have : (L.zip L)[k]? = some (L[k], L[k]) := by
            rw [List.getElem?_zip_eq_some]
            exact ⟨List.getElem?_eq_getElem hk, List.getElem?_eq_getElem hk⟩
          rw [this, List.getElem?_eq_getElem hk]
          rfl
        · rw [List.getElem?_eq_none (by rw [List.length_zip]; omega), List.getElem?_eq_none (by omega)]
          rfl
      rw [e]
      exact ft_lc L PyData.int (fun p => .t [.d (.int p), .c .lst []]) (nw_list (n_at ep_var (it_q rfl) rfl hL)) (by omega) (fun p hp => gn_1 (by decide)) fun p hp => ft_tup (fa_cons (ft_d (n_rd rfl rfl)) (fa_cons ft_nil fa_nil)) (Nat.le_of_ble_eq_true rfl)
    subst e1 e2
    refine s_seq (s_for (L.drop 1) PyData.int (nw_is (nw_list (n_slL (ds := L.map .int) (n_at ep_var (it_q rfl) rfl hL) (np_some n_int) np_none)) (by rw [cutA_map]; exact congrArg (List.map PyData.int) (cutA_drop L 1))) (fun i Γ' => ∃ (As : List Addr) (x3 : Option Sl), Γ' = [some (.q (TRq K oL)), some (.q (TRq K (aboO L par))), some (nT K (behO par L ((L.drop 1).take i)) As), x3]) ⟨As, none, by rw [List.take_zero]; rfl⟩ (fun i c Γ' hc hI => ⟨_, gt_1, ?_⟩) (fun Γ' hI => ?_))
    · obtain ⟨As, x3, rfl⟩ := hI
      have hc1 : L[i + 1]? = some c := by
        rw [List.getElem?_drop, Nat.add_comm] at hc
        exact hc
      obtain ⟨j, hj, hp⟩ := hH.above i c hc1
      have hcm := hH.mem.mp (List.mem_of_getElem? hc1)
      have hc0 : c ≠ 0 := fun z => by
        rw [z] at hc1
        have := nd_at hH.nd hc1 hL0
        omega
      have hjl := (List.getElem?_eq_some_iff.mp hp).1
      have hget : (behO par L ((L.drop 1).take i)).get [j] = some (intO (kidsAt par ((L.drop 1).take i) (par c))) := by
        unfold behO OD.get
        rw [List.getElem?_map, hp]
        rfl
      refine s_appT (x := none) (i := 2) (o := behO par L ((L.drop 1).take i)) (p := [j]) (As := As) (os := (kidsAt par ((L.drop 1).take i) (par c)).map fun z => .d (.int z)) ⟨rfl, ep_dget (ki := L) (os := L.map fun p => intO (kidsAt par ((L.drop 1).take i) p)) ep_var (it_o rfl) rfl (n_at (ep_dget (ki := L) (os := L.map fun c => .d (parD par c)) (j := i + 1) ep_var (it_q rfl) rfl (n_rd rfl rfl) hH.nd hc1) (it_q rfl) (sub := .d (.int (par c))) ?sub rfl) hH.nd hp, ?hg⟩ ?len (xf_a (d := .int c) (n_rd rfl rfl) rfl) fun o' Γ' ⟨e1, e2⟩ => ?_
      case sub =>
        show ((aboO L par).get [i + 1]) = _
        unfold aboO OD.get
        rw [List.getElem?_map, hc1]
        show some (OD.d (parD par c)) = _
        unfold parD
        rw [if_neg hc0]
      case hg =>
        rw [hget]
        unfold intO
        rw [List.map_map]
        rfl
      case len =>
        rw [List.length_map]
        have : (kidsAt par ((L.drop 1).take i) (par c)).length ≤ ((L.drop 1).take i).length := List.length_filter_le _ _
        rw [List.length_take, List.length_drop] at this
        omega
      subst e1 e2
      refine ⟨rfl, fun As2 => ⟨As2, some (.d (.int c)), ?_⟩⟩
      rw [List.take_add_one, hc]
      show _ = [_, _, some (nT K (behO par L ((L.drop 1).take i ++ [c])) As2), _]
      have hput : (behO par L ((L.drop 1).take i)).put [j] (.c .lst ((kidsAt par ((L.drop 1).take i) (par c)).map (fun z => .d (.int z)) ++ [.d (.int c)])) = behO par L ((L.drop 1).take i ++ [c]) := by
        unfold behO OD.put
        rw [List.getElem?_map, hp]
        show OD.c _ (List.set _ j (OD.put _ [] _)) = _
        unfold OD.put
        rw [← beh_put hH.nd hp]
        congr 2
        unfold intO
        rw [List.map_map, List.map_append]
        rfl
      rw [← hput]
      rfl
    obtain ⟨As, x3, rfl⟩ := hI
    rw [List.take_length]
    exact s_retT (xf_var rfl).x fun o Γ' ⟨e, _⟩ => e
end
end Pw

/-! ## K41_cheapest -/
namespace Pw
open PySem L2 Evl
def oI : Option Int → PyData
  | none => .none
  | some c => .int c
def rwD (r : Row) : PyData := .list (r.map oI)
def fCheap (os : List OD) (post : OD → Prop) : Prop := ∃ (o : OD) (r : Row) (w : Int) (k : Nat), os = [o, .d (.int w), .d (.int (k : Int))] ∧ o.asD = some (rwD r) ∧ openR r ∧ r.length ≤ 100 ∧ post = fun x => x = .d (.int (cheapR r w k))
theorem costs_filt (w : Int) (k : Nat) : ∀ (l : List (Option Int × Nat)), ((l.filter fun p => p.1.isSome).map fun p => PyData.int ((p.1.getD 0) + w * (if p.2 = k then 0 else 1))) = (l.filterMap fun q => q.1.map fun c => c + w * (if q.2 = k then 0 else 1)).map .int
  | [] => rfl
  | (none, j) :: l => costs_filt w k l
  | (some c, j) :: l => congrArg (PyData.int (c + w * (if j = k then 0 else 1)) :: ·) (costs_filt w k l)

section
variable {P : Program} {w : World} {K : PySem.W.Frag} {mg : Str → Option Value} {base : Heap}
theorem sc_cheapest : FnScope nm_cheapest ps_cheapest (defScope s_cheapest) := ⟨rfl, rfl, rfl, by decide +kernel, rfl, by decide +kernel, by decide +kernel⟩
theorem ok_cheapest {f : Addr} {fd : FuncData} (T : Txt mg) (Ds : Defs K mg) (D : Dfn K mg "cheapest" s_cheapest ps_cheapest f fd) : FnOk P w K mg base CX0 1 f fd ps_cheapest (spT K fCheap) := by
  refine D.F.ok sc_cheapest (fun vs H Q E h => ?_) (fun cdv A outer s H vs Q E hr h => ?_)
  · obtain ⟨S, B, os, post, w, hd, ⟨o, r, wt, k, rfl, _⟩, _⟩ := h
    exact TqAll.length hd
  · obtain ⟨S, B, os, post, w, hd, ⟨o, r, wt, k, rfl, ho, hr1, hl, rfl⟩, q⟩ := h
    obtain ⟨v1, v2, v3, rfl, h1, h2, h3⟩ := tq3 hd
    replace h2 := h2.dq
    replace h3 := h3.dq
    refine ⟨_, (pss_one (ps_ret (pe_callB (cr_min rfl) (by rfl) T.m_min (by decide +kernel) (pa_cons (pe_lc (own := [("k", 3), ("cost", 4)]) (g := (gTup K 2 (gCons (gName 3) (gCons (gName 4) gNil)))) (by rfl) sc_cheapest.nd (pi_enumO false (by rfl) T.m_enumerate (pa_cons (pv 0) pa_nil)) (blkOk_by (own := [("k", 3), ("cost", 4)]) (N := nm_cheapest) (sc := defScope s_cheapest) (by decide +kernel)) (fun _ _ _ _ _ => (pg_tup (by rfl) (pgs_cons (pg_name (i := 3) sc_cheapest.nd rfl (Or.inl rfl)) (pgs_cons (pg_name (i := 4) sc_cheapest.nd rfl (Or.inl rfl)) pgs_nil)))) (fun _ _ _ _ _ => (pts_one (pt_cmpR op_notN (pv 4) pe_non (nomark _)))) (fun _ _ _ _ _ => (pe_op op_add (pv 4) (pe_op op_mul (pv 1) (pe_callTy (T := "int") call_int1 (by rfl) T.m_int (by decide +kernel) (pa_cons (pe_cmpR op_ne (pv 3) (pv 2) (nomark _)) pa_nil)))))) pa_nil)))), ?_⟩
    refine fn_T w (sl_some (s := .q (TRq K _)) ⟨stays_TRq, h1⟩ (sl_some (s := .d _) h2 (sl_some (s := .d _) h3 (sl_none (sl_none sl_nil))))) rfl ?_ q
    refine s_ret (d := .int (cheapR r wt k)) (n_minL (ns := costsR r wt k) ?_ ?_) rfl
    · refine n_is (n_lc (r.zipIdx) (fun p => .tuple [.int (p.2 : Nat), oI p.1]) (fun p => p.1.isSome) (fun p => .int ((p.1.getD 0) + wt * (if p.2 = k then 0 else 1))) (nw_enum (t := false) (e1 := oI) (xs := r) (na_cons (n_at ep_var (it_q rfl) rfl ho) na_nil)) (by rw [List.length_zipIdx]; omega) fun p hp => nt (gn_tup rfl (gns_cons (gn_1 (by decide)) (gns_cons (gn_1 (by decide)) gns_nil))) ?tst fun hs => ?elt) ?eq
      case tst =>
        obtain ⟨y, j⟩ := p
        cases y with
        | none => exact nb_test (n_notN (d := .none) (n_rd rfl rfl) rfl)
        | some c => exact nb_test (n_notN (d := .int c) (n_rd rfl rfl) rfl)
      case elt =>
        obtain ⟨y, j⟩ := p
        cases y with
        | none => cases hs
        | some c =>
          refine n_is (n_add (i := c) (n_rd rfl rfl) (n_mul (n_rd rfl rfl) (n_intB (n_neI (i := (j : Int)) (j := (k : Int)) (n_rd rfl rfl) (n_rd rfl rfl))) (.inr ⟨by split <;> omega, by split <;> omega⟩))) ?_
          have : ((!decide ((j : Int) = (k : Int))) = true) ↔ ¬ j = k := by
            rw [Bool.not_eq_true', decide_eq_false_iff_not]
            omega
          by_cases z : j = k
          · rw [if_neg fun y => this.mp y z]
            show _ = PyData.int (c + wt * (if j = k then 0 else 1))
            rw [if_pos z]
          · rw [if_pos (this.mpr z)]
            show _ = PyData.int (c + wt * (if j = k then 0 else 1))
            rw [if_neg z]
      case eq =>
        rw [costs_filt]
        rfl
    · intro z
      obtain ⟨j, c, h⟩ := hr1
      have : c + wt * (if j = k then 0 else 1) ∈ costsR r wt k := costs_mem.mpr ⟨j, c, h, rfl⟩
      rw [z] at this
      cases this
end
end Pw

/-! ## K41_first_row -/
namespace Pw
open PySem L2 Evl
def rowO (r : Row) : OD := .c .lst ((r.map oI).map .d)
def fFirst (os : List OD) (post : OD → Prop) : Prop := ∃ (t : Bool) (ps : List Int) (p : Int), os = [.d (seqD t (ps.map .int)), .d (.int p)] ∧ ps.length ≤ 60 ∧ ps.Nodup ∧ post = fun r => r = rowO (rowOf ps p fun _ => 0)
theorem rowO_asD (r : Row) : (rowO r).asD = some (rwD r) := by
  unfold rowO OD.asD
  rw [asDs_d]
  rfl
theorem rowO_noL (r : Row) : noLs (r.map oI) = true := by
  induction r with
  | nil => rfl
  | cons x r ih =>
    rw [List.map_cons, noLs, ih]
    cases x <;> rfl
theorem range_map_at {α β : Type} (ps : List α) (f : Nat → β) (g : α → β) (h : ∀ (k : Nat) (a : α), ps[k]? = some a → f k = g a) : (List.range ps.length).map f = ps.map g := by
  refine List.ext_getElem? fun k => ?_
  by_cases hk : k < ps.length
  · rw [List.getElem?_map, List.getElem?_range hk, List.getElem?_map, List.getElem?_eq_getElem hk]
    exact congrArg some (h k _ (List.getElem?_eq_getElem hk))
  · rw [List.getElem?_eq_none (by rw [List.length_map, List.length_range]; omega), List.getElem?_eq_none (by rw [List.length_map]; omega)]
def barB (ps : List Int) (p q : Int) : Bool := decide (p ∈ ps) && !decide (p = q)
theorem first_eq (ps : List Int) (p : Int) : (rowOf ps p fun _ => 0).map oI = ps.map fun q => bif barB ps p q then PyData.none else .int 0 := by
  unfold rowOf
  rw [List.map_map]
  refine range_map_at ps _ _ fun k q hk => ?_
  show oI (if blocked ps p k = true then none else some 0) = _
  have : blocked ps p k = barB ps p q := by
    unfold blocked barB
    rw [hk]
    congr 2
    rw [decide_eq_decide, Option.some.injEq]
    exact ⟨fun h => h.symm, fun h => h.symm⟩
  rw [this]
  cases barB ps p q <;> rfl

section
variable {P : Program} {w : World} {K : PySem.W.Frag} {mg : Str → Option Value} {base : Heap}
theorem sc_first_row : FnScope nm_first_row ps_first_row (defScope s_first_row) := ⟨rfl, rfl, rfl, by decide +kernel, rfl, by decide +kernel, by decide +kernel⟩
theorem ok_first_row {f : Addr} {fd : FuncData} (T : Txt mg) (Ds : Defs K mg) (D : Dfn K mg "first_row" s_first_row ps_first_row f fd) : FnOk P w K mg base CX0 1 f fd ps_first_row (spT K fFirst) := by
  refine D.F.ok sc_first_row (fun vs H Q E h => ?_) (fun cdv A outer s H vs Q E hr h => ?_)
  · obtain ⟨S, B, os, post, w, hd, ⟨t, ps, p, rfl, _⟩, _⟩ := h
    exact TqAll.length hd
  · obtain ⟨S, B, os, post, w, hd, ⟨t, ps, p, rfl, hl, hnd, rfl⟩, q⟩ := h
    obtain ⟨v1, v2, rfl, h1, h2⟩ := tq2 hd
    replace h1 := h1.dq
    replace h2 := h2.dq
    refine ⟨_, (pss_one (ps_ret (pe_lc (own := [("post", 2)]) (g := (gName 2)) (by rfl) sc_first_row.nd (pi_or (pi_list (pv 0)) (pi_tup (pv 0))) (blkOk_by (own := [("post", 2)]) (N := nm_first_row) (sc := defScope s_first_row) (by decide +kernel)) (fun _ _ _ _ _ => (pg_name (i := 2) sc_first_row.nd rfl (Or.inl rfl))) (fun _ _ _ _ _ => pts_nil) (fun _ _ _ _ _ => (pe_ifExp (PW.pt (pw_and (pt_cmpR (r := rIn K false) op_in_seq (pv 1) (pv 0) (by rfl)) (pw_and1 (pt_cmpR op_ne (pv 1) (pv 2) (nomark _))))) pe_non pe_int))))), ?_⟩
    refine fn_T w (sl_some (s := .d _) h1 (sl_some (s := .d _) h2 (sl_none sl_nil))) rfl ?_ q
    refine s_retT (xf_eo (ds := (rowOf ps p fun _ => 0).map oI) (eo_is (eo_lc1 ps PyData.int (fun q => bif barB ps p q then PyData.none else .int 0) (nw_seq (t := t) (n_rd rfl rfl)) (by omega) fun q hq => nt (gn_1 (by decide)) nb_yes fun _ => n_ite (b := barB ps p q) (nb_and (nb_test (n_in (neg := false) (t := t) (ns := ps) (n_rd rfl rfl) (n_rd rfl rfl))) fun _ => nb_test (n_neI (i := p) (j := q) (n_rd rfl rfl) (n_rd rfl rfl))) (fun _ => n_non) fun _ => n_int) (first_eq ps p).symm)).x fun o Γ' ⟨e, _⟩ => e
end
end Pw

/-! ## K41_row_above -/
namespace Pw
open PySem L2 Evl
/-- the row of a place by those of the places that hang on it -/
def fRowAb (os : List OD) (post : OD → Prop) : Prop := ∃ (oR oB : OD) (t : Bool) (ps : List Int) (p n : Int) (ts : List Tie) (par : Int → Int) (Tb : Int → Row) (rw : List PyData) (C D : List Int), os = [oR, wtsO ts par C, .d (seqD t (ps.map .int)), .d (.int p), oB] ∧ oR.asD = some (.list rw) ∧ oB.asD = some (.list (D.map .int)) ∧ (C.Nodup ∧ C.length ≤ 60) ∧ ((∀ c ∈ D, c ∈ C ∧ 0 ≤ c) ∧ D.length ≤ 60) ∧ (ps.length ≤ 60 ∧ ps.Nodup) ∧ ps ≠ [] ∧ (∀ c ∈ D, openR (Tb c) ∧ (Tb c).length ≤ 100) ∧ (∀ c ∈ D, rw[c.toNat]? = some (rwD (Tb c))) ∧
  post = fun r => r = rowO (rowOf ps p fun k => (D.map fun c => cheapR (Tb c) (wUp ts par c) k).sum)
theorem sum_take {α : Type} {D : List α} {i : Nat} {c : α} (f : α → Int) (h : D[i]? = some c) : ((D.take (i + 1)).map f).sum = ((D.take i).map f).sum + f c := by
  rw [List.take_add_one, h]
  show ((D.take i ++ [c]).map f).sum = _
  rw [List.map_append, List.sum_append]
  show _ + (f c + 0) = _
  omega

section
variable {P : Program} {w : World} {K : PySem.W.Frag} {mg : Str → Option Value} {base : Heap}
theorem sc_row_above : FnScope nm_row_above ps_row_above (defScope s_row_above) := ⟨rfl, rfl, rfl, by decide +kernel, rfl, by decide +kernel, by decide +kernel⟩
theorem ok_row_above {f : Addr} {fd : FuncData} (T : Txt mg) (Ds : Defs K mg) (D : Dfn K mg "row_above" s_row_above ps_row_above f fd) : FnOk P w K mg base CX0 2 f fd ps_row_above (spT K fRowAb) := by
  obtain ⟨f_cheapest, fd_cheapest, D_cheapest⟩ := Ds.d_cheapest
  have G_cheapest := ok_cheapest (P := P) (w := w) (base := base) T Ds D_cheapest
  obtain ⟨f_first_row, fd_first_row, D_first_row⟩ := Ds.d_first_row
  have G_first_row := ok_first_row (P := P) (w := w) (base := base) T Ds D_first_row
  refine D.F.ok sc_row_above (fun vs H Q E h => ?_) (fun cdv A outer s H vs Q E hr h => ?_)
  · obtain ⟨S, B, os, post, w, hd, ⟨oR, oB, t, ps, p, n, ts, par, Tb, rw, C, D, rfl, _⟩, _⟩ := h
    exact TqAll.length hd
  · obtain ⟨S, B, os, post, w, hd, ⟨oR, oB, t, ps, p, n, ts, par, Tb, rw, C, D, rfl, hR, hB, hC, hD, hps, hne, hp, hrw, rfl⟩, q⟩ := h
    have hr_cheapest := hr.mono (show 1 ≤ 1 by decide)
    have hr_first_row := hr.mono (show 1 ≤ 1 by decide)
    obtain ⟨v1, v2, v3, v4, v5, rfl, h1, h2, h3, h4, h5⟩ := tq5 hd
    replace h3 := h3.dq
    replace h4 := h4.dq
    have hu := hu_of hr
    refine ⟨_, (pss_cons (ps_set (i := 5) sc_row_above.nd rfl (Or.inl rfl) (pe_call G_first_row hr_first_row (by rfl) D_first_row.g D_first_row.F.kp D_first_row.b .nil pass0 (pa_cons (pv 2) (pa_cons (pv 3) pa_nil))))
      (pss_cons (ps_for PassesOwn.never rfl (pi_list (pv 4)) (pg_name (i := 6) sc_row_above.nd rfl (Or.inr rfl))
        (pss_cons (ps_setLc (i := 7) (own := [("at", 8)]) (g := (gName 8)) (by rfl) sc_row_above.nd rfl rfl (sw_true rfl rfl rfl (by decide +kernel)) (pi_range1 (by rfl) T.m_range (pa_cons (pe_callB call_len_seq (by rfl) T.m_len (by decide +kernel) (pa_cons (pv 2) pa_nil)) pa_nil)) (blkOk_by (own := [("at", 8)]) (N := nm_row_above) (sc := defScope s_row_above) (by decide +kernel)) (fun _ _ _ _ _ => (pg_name (i := 8) sc_row_above.nd rfl (Or.inl rfl))) (fun _ _ _ _ _ => pts_nil) (fun _ _ _ _ _ => (pe_call G_cheapest hr_cheapest (by rfl) D_cheapest.g D_cheapest.F.kp D_cheapest.b .nil pass0 (pa_cons (pe_ix (r := rIxL K) ix_list (pv 0) (pv 6) (fun _ _ => rfl)) (pa_cons (pe_dget hu (pv 1) (pv 6) (fun _ _ => rfl)) (pa_cons (pv 8) pa_nil))))))
        (pss_one (ps_setLc (i := 5) (own := [("cost", 9), ("extra", 10)]) (g := (gTup K 2 (gCons (gName 9) (gCons (gName 10) gNil)))) (by rfl) sc_row_above.nd rfl rfl (sw_true rfl rfl rfl (by decide +kernel)) (pi_zipO false false (by rfl) T.m_zip (pa_cons (pv 5) (pa_cons (pv 7) pa_nil))) (blkOk_by (own := [("cost", 9), ("extra", 10)]) (N := nm_row_above) (sc := defScope s_row_above) (by decide +kernel)) (fun _ _ _ _ _ => (pg_tup (by rfl) (pgs_cons (pg_name (i := 9) sc_row_above.nd rfl (Or.inl rfl)) (pgs_cons (pg_name (i := 10) sc_row_above.nd rfl (Or.inl rfl)) pgs_nil)))) (fun _ _ _ _ _ => pts_nil) (fun _ _ _ _ _ => (pe_ifExp (pt_cmpR op_isN (pv 9) pe_non (nomark _)) pe_non (pe_op op_add (pv 9) (pv 10))))))))
      (pss_one (ps_ret (pv 5))))), ?_⟩
    refine fn_T w (sl_some (s := .q (TRq K _)) ⟨stays_TRq, h1⟩ (sl_some (s := .q (TRq K _)) ⟨stays_TRq, h2⟩ (sl_some (s := .d _) h3 (sl_some (s := .d _) h4 (sl_some (s := .q (TRq K _)) ⟨stays_TRq, h5⟩ (sl_none (sl_none (sl_none (sl_none (sl_none (sl_none sl_nil))))))))))) rfl ?_ q
    obtain ⟨hC1, hC2⟩ := hC
    obtain ⟨hD1, hD2⟩ := hD
    obtain ⟨hps1, hps2⟩ := hps
    refine s_seq (s_asgN (xf_call (post := fun r => r = rowO (rowOf ps p fun _ => 0)) (et_cons (et_d (n_rd rfl rfl)) (et_cons (et_d (n_rd rfl rfl)) et_nil)) ⟨t, ps, p, rfl, hps1, hps2, rfl⟩).x fun o Γ' ⟨e1, e2⟩ As => ?_)
    subst e1 e2
    refine s_seq (s_for D PyData.int (nw_list (n_at ep_var (it_q rfl) rfl hB)) (fun i Γ' => ∃ (As : List Addr) (x6 x7 : Option Sl), Γ' = [some (.q (TRq K oR)), some (.q (TRq K (wtsO ts par C))), some (.d (seqD t (ps.map .int))), some (.d (.int p)), some (.q (TRq K oB)), some (nT K (rowO (rowOf ps p fun k => ((D.take i).map fun c => cheapR (Tb c) (wUp ts par c) k).sum)) As), x6, x7, none, none, none]) ⟨As, none, none, rfl⟩ (fun i c Γ' hc hI => ⟨_, gt_1, ?_⟩) (fun Γ' hI => ?_))
    · obtain ⟨As, x6, x7, rfl⟩ := hI
      have hcm := List.mem_of_getElem? hc
      obtain ⟨hcC, hc0⟩ := hD1 c hcm
      obtain ⟨hop, hlen⟩ := hp c hcm
      obtain ⟨j, hj⟩ := List.getElem?_of_mem hcC
      refine s_seq (s_asg (d := .list (((List.range ps.length).map fun k => cheapR (Tb c) (wUp ts par c) k).map .int)) (n_is (n_lc1 (rngI 0 ps.length) PyData.int (fun k => .int (cheapR (Tb c) (wUp ts par c) k.toNat)) (nw_rng1 (j := (ps.length : Nat)) (na_cons (n_is (n_len (t := t) (ds := ps.map .int) (n_rd rfl rfl)) (by rw [List.length_map])) na_nil) (by omega)) (by rw [rngI_len]; omega) fun k hk => nt (gn_1 (by decide)) nb_yes fun _ => ?cheap) ?more) ?_)
      case cheap =>
        have hk := rngI_mem.mp hk
        refine n_callT (post := fun x => x = .d (.int (cheapR (Tb c) (wUp ts par c) k.toNat))) (et_cons (et_d (n_ixL (ds := rw) (n_at ep_var (it_q rfl) rfl hR) (n_rd rfl rfl) (atI_at hc0 (hrw c hcm)))) (et_cons (et_d (n_at (ep_dget (ki := C) (os := C.map fun c => .d (.int (wUp ts par c))) (j := j) ep_var (it_q rfl) rfl (n_rd rfl rfl) hC1 hj) (it_q rfl) (sub := .d (.int (wUp ts par c))) ?sub rfl)) (et_cons (et_d (n_is (d' := .int ((k.toNat : Nat) : Int)) (n_rd rfl rfl) ?kk)) et_nil))) ⟨.d (rwD (Tb c)), Tb c, _, k.toNat, rfl, rfl, hop, hlen, rfl⟩ fun r e => by rw [e]; rfl
        case sub =>
          show ((wtsO ts par C).get [j]) = _
          unfold wtsO OD.get
          rw [List.getElem?_map, hj]
          rfl
        case kk =>
          rw [show ((k.toNat : Nat) : Int) = k by omega]
      case more =>
        rw [List.map_map]
        refine congrArg PyData.list ?_
        unfold rngI
        rw [List.map_map]
        refine List.map_congr_left fun k _ => ?_
        show PyData.int (cheapR (Tb c) (wUp ts par c) (((0 : Int) + (k : Int)).toNat)) = _
        rw [show ((0 : Int) + (k : Int)).toNat = k by omega]
        rfl
      refine s_asgN (xf_eoA (ds := (rowOf ps p fun k => ((D.take (i + 1)).map fun c => cheapR (Tb c) (wUp ts par c) k).sum).map oI) (eo_is (eo_lc1 ((rowOf ps p fun k => ((D.take i).map fun c => cheapR (Tb c) (wUp ts par c) k).sum).zip ((List.range ps.length).map fun k => cheapR (Tb c) (wUp ts par c) k)) (fun q => .tuple [oI q.1, .int q.2]) (fun q => oI (q.1.map fun x => x + q.2)) (nw_zip (t := false) (u := false) (e1 := oI) (e2 := PyData.int) (na_cons (n_at ep_var (it_o rfl) rfl ?rowd) (na_cons (n_rd rfl rfl) na_nil))) (by rw [List.length_zip, row_len]; omega) fun q hq => nt (gn_tup rfl (gns_cons (gn_1 (by decide)) (gns_cons (gn_1 (by decide)) gns_nil))) nb_yes fun _ => ?elt) ?eq) ?nol).x fun o Γ' ⟨e1, e2⟩ As2 => ?_
      case rowd => exact rowO_asD _
      case elt =>
        obtain ⟨x, m⟩ := q
        cases x with
        | none => exact n_if (b := true) (nb_test (n_isN (d := .none) (n_rd rfl rfl) rfl)) (fun _ => n_non) (fun h => by cases h)
        | some x => exact n_if (b := false) (nb_test (n_isN (d := .int x) (n_rd rfl rfl) rfl)) (fun h => by cases h) (fun _ => n_add (i := x) (j := m) (n_rd rfl rfl) (n_rd rfl rfl))
      case eq =>
        have hs : (fun k => ((D.take (i + 1)).map fun c => cheapR (Tb c) (wUp ts par c) k).sum) = fun k => ((D.take i).map fun c => cheapR (Tb c) (wUp ts par c) k).sum + cheapR (Tb c) (wUp ts par c) k := funext fun k => sum_take (fun c => cheapR (Tb c) (wUp ts par c) k) hc
        rw [hs]
        unfold rowOf
        rw [List.zip_map, List.map_map, List.map_map]
        refine List.ext_getElem? fun k => ?_
        rw [List.getElem?_map, List.getElem?_map]
        by_cases hk : k < ps.length
        · have e1 : ((List.range ps.length).zip (List.range ps.length))[k]? = some (k, k) := by
            rw [List.getElem?_zip_eq_some]
            exact ⟨List.getElem?_range hk, List.getElem?_range hk⟩
          rw [e1, List.getElem?_range hk]
          show some (oI (Option.map _ (if blocked ps p k = true then none else some _))) = some (oI (if blocked ps p k = true then none else some _))
          cases blocked ps p k <;> rfl
        · rw [List.getElem?_eq_none (by rw [List.length_zip, List.length_range]; omega), List.getElem?_eq_none (by rw [List.length_range]; omega)]
          rfl
      case nol => exact rowO_noL _
      subst e1 e2
      exact ⟨As2, _, _, rfl⟩
    obtain ⟨As, x6, x7, rfl⟩ := hI
    rw [List.take_length]
    exact s_retT (xf_var rfl).x fun o Γ' ⟨e, _⟩ => e
end
end Pw

/-! ## K41_table_of -/
namespace Pw
open PySem L2 Evl
def tabO (n : Int) (ps : List Int) (ts : List Tie) (par : Int → Int) : OD := .c .lst ((rngI 0 n.toNat).map fun p => rowO (tabT n ps ts par p))
def fTable (os : List OD) (post : OD → Prop) : Prop := ∃ (n : Int) (ts : List Tie) (t : Bool) (ps : List Int), os = [.d (webD n ts), .d (seqD t (ps.map .int))] ∧ TreeW n ts ∧ n ≤ 60 ∧ (ps.Nodup ∧ ps.length ≤ 60) ∧ ps ≠ [] ∧ post = fun r => ∃ L par, Hung n ts L par ∧ r = tabO n ps ts par
/-- the table as far as it is there: the places from a turn on -/
def tabAt (n : Int) (ps : List Int) (ts : List Tie) (par : Int → Int) (L : List Int) (i : Nat) : OD := .c .lst ((rngI 0 n.toNat).map fun p => if p ∈ L.drop i then rowO (tabT n ps ts par p) else .c .lst [])
theorem rev_at {L : List Int} {i : Nat} {p : Int} (h : L.reverse[i]? = some p) : i < L.length ∧ L[L.length - 1 - i]? = some p := by
  have hl := (List.getElem?_eq_some_iff.mp h).1
  rw [List.length_reverse] at hl
  rw [List.getElem?_reverse hl] at h
  exact ⟨hl, h⟩
theorem asDs_map {α : Type} {l : List α} {f : α → OD} {g : α → PyData} (h : ∀ a ∈ l, (f a).asD = some (g a)) : asDs (l.map f) = some (l.map g) := by
  induction l with
  | nil => unfold asDs; rfl
  | cons a l ih =>
    rw [List.map_cons]
    unfold asDs
    rw [h a List.mem_cons_self, ih fun b hb => h b (List.mem_cons_of_mem _ hb)]
    rfl
theorem sum_kids {n : Int} {ts : List Tie} {L : List Int} {par : Int → Int} (h : Hung n ts L par) (p : Int) (g : Int → Int) : ((kidsAt par (L.drop 1) p).map g).sum = ((kidsT n par p).map g).sum := by
  refine sum_permT (List.Perm.map g ?_)
  refine List.Perm.filter _ ?_
  have h1 := h.perm
  have hl := h.fst
  cases L with
  | nil => simp at hl
  | cons x L =>
    simp only [List.getElem?_cons_zero, Option.some.injEq] at hl
    subst hl
    rw [rngI_head h.pos] at h1
    exact h1.cons_inv

section
variable {P : Program} {w : World} {K : PySem.W.Frag} {mg : Str → Option Value} {base : Heap}
theorem sc_table_of : FnScope nm_table_of ps_table_of (defScope s_table_of) := ⟨rfl, rfl, rfl, by decide +kernel, rfl, by decide +kernel, by decide +kernel⟩
theorem ok_table_of {f : Addr} {fd : FuncData} (T : Txt mg) (Ds : Defs K mg) (D : Dfn K mg "table_of" s_table_of ps_table_of f fd) : FnOk P w K mg base CX0 3 f fd ps_table_of (spT K fTable) := by
  obtain ⟨f_hung, fd_hung, D_hung⟩ := Ds.d_hung
  have G_hung := ok_hung (P := P) (w := w) (base := base) T Ds D_hung
  obtain ⟨f_weights_above, fd_weights_above, D_weights_above⟩ := Ds.d_weights_above
  have G_weights_above := ok_weights_above (P := P) (w := w) (base := base) T Ds D_weights_above
  obtain ⟨f_places_behind, fd_places_behind, D_places_behind⟩ := Ds.d_places_behind
  have G_places_behind := ok_places_behind (P := P) (w := w) (base := base) T Ds D_places_behind
  obtain ⟨f_row_above, fd_row_above, D_row_above⟩ := Ds.d_row_above
  have G_row_above := ok_row_above (P := P) (w := w) (base := base) T Ds D_row_above
  refine D.F.ok sc_table_of (fun vs H Q E h => ?_) (fun cdv A outer s H vs Q E hr h => ?_)
  · obtain ⟨S, B, os, post, w, hd, ⟨n, ts, t, ps, rfl, _⟩, _⟩ := h
    exact TqAll.length hd
  · obtain ⟨S, B, os, post, w, hd, ⟨n, ts, t, ps, rfl, hT, hn, hP, hne, rfl⟩, q⟩ := h
    have hr_hung := hr.mono (show 2 ≤ 2 by decide)
    have hr_weights_above := hr.mono (show 1 ≤ 2 by decide)
    have hr_places_behind := hr.mono (show 1 ≤ 2 by decide)
    have hr_row_above := hr.mono (show 2 ≤ 2 by decide)
    obtain ⟨v1, v2, rfl, h1, h2⟩ := tq2 hd
    replace h1 := h1.dq
    replace h2 := h2.dq
    have hu := hu_of hr
    refine ⟨_, (pss_cons (ps_asg (pe_call G_hung hr_hung (by rfl) D_hung.g D_hung.F.kp D_hung.b .nil pass0 (pa_cons (pv 0) pa_nil)) (pg_tup (by rfl) (pgs_cons (pg_name (i := 2) sc_table_of.nd rfl (Or.inl rfl)) (pgs_cons (pg_name (i := 3) sc_table_of.nd rfl (Or.inl rfl)) pgs_nil))))
      (pss_cons (ps_set (i := 4) sc_table_of.nd rfl (Or.inl rfl) (pe_call G_weights_above hr_weights_above (by rfl) D_weights_above.g D_weights_above.F.kp D_weights_above.b .nil pass0 (pa_cons (pv 0) (pa_cons (pv 3) pa_nil))))
      (pss_cons (ps_set (i := 5) sc_table_of.nd rfl (Or.inl rfl) (pe_call G_places_behind hr_places_behind (by rfl) D_places_behind.g D_places_behind.F.kp D_places_behind.b .nil pass0 (pa_cons (pv 2) (pa_cons (pv 3) pa_nil))))
      (pss_cons (ps_setLc (i := 6) (own := [("place", 7)]) (g := (gName 7)) (by rfl) sc_table_of.nd rfl rfl (sw_true rfl rfl rfl (by decide +kernel)) (pi_list (pv 2)) (blkOk_by (own := [("place", 7)]) (N := nm_table_of) (sc := defScope s_table_of) (by decide +kernel)) (fun _ _ _ _ _ => (pg_name (i := 7) sc_table_of.nd rfl (Or.inl rfl))) (fun _ _ _ _ _ => pts_nil) (fun _ _ _ _ _ => (pe_lst pa_nil)))
      (pss_cons (ps_for PassesOwn.never rfl (pi_reversed (by rfl) T.m_reversed (pa_cons (pv 2) pa_nil)) (pg_name (i := 7) sc_table_of.nd rfl (Or.inl rfl))
        (pss_one (ps_asg (pe_call G_row_above hr_row_above (by rfl) D_row_above.g D_row_above.F.kp D_row_above.b .nil pass0 (pa_cons (pv 6) (pa_cons (pv 4) (pa_cons (pv 1) (pa_cons (pv 7) (pa_cons (pe_dget hu (pv 5) (pv 7) (fun _ _ => rfl)) pa_nil)))))) (pg_sub (pv 6) (pv 7) set_list))))
      (pss_one (ps_ret (pv 6)))))))), ?_⟩
    refine fn_T w (sl_some (s := .d _) h1 (sl_some (s := .d _) h2 (sl_none (sl_none (sl_none (sl_none (sl_none (sl_none sl_nil)))))))) rfl ?_ q
    obtain ⟨hP1, hP2⟩ := hP
    have hpos := hT.web.pos
    refine s_seq (s_asgT2 (i := 2) (j := 3) (n := 2) (by decide) (xf_call (post := fun r => ∃ L par, Hung n ts L par ∧ r = hungO L par) (et_cons (et_d (n_rd rfl rfl)) et_nil) ⟨n, ts, rfl, hT, hn, rfl⟩).x fun o Γ' ⟨⟨L, par, hH, e1⟩, e2⟩ => ⟨intO L, aboO L par, e1, fun A1 A2 => ?_⟩)
    subst e1 e2
    have hLl := hH.len
    refine s_giveT (i := 2) (d := .list (L.map .int)) rfl rfl (by unfold intO OD.asD; rw [asDs_d]; rfl) ?_
    refine s_giveQ (i := 3) rfl rfl ?_
    refine s_seq (s_asgN (xf_call (post := fun r => ∃ C, C.Nodup ∧ (∀ c, c ∈ C ↔ 0 < c ∧ c < n) ∧ r = wtsO ts par C) (et_cons (et_d (n_rd rfl rfl)) (et_cons (et_at ep_var (it_q rfl) rfl) et_nil)) ⟨n, ts, L, par, rfl, hT, hH, hn, rfl⟩).x fun o Γ' ⟨⟨C, hC1, hC2, e1⟩, e2⟩ As => ?_)
    subst e1 e2
    refine s_giveQ (i := 4) rfl rfl ?_
    refine s_seq (s_asgN (xf_call (post := fun r => r = behO par L (L.drop 1)) (et_cons (et_d (n_rd rfl rfl)) (et_cons (et_at ep_var (it_q rfl) rfl) et_nil)) ⟨_, n, ts, L, par, rfl, rfl, hH, hn, rfl⟩).x fun o Γ' ⟨e1, e2⟩ As => ?_)
    subst e1 e2
    refine s_giveQ (i := 5) rfl rfl ?_
    have hCl : C.length ≤ 60 := by
      have := few_in (n := n.toNat) hC1 fun k hk => by
        have := (hC2 k).mp hk
        omega
      omega
    have hrl : L.length = (rngI 0 n.toNat).length := by rw [rngI_len]; exact hLl
    refine s_seq (s_asgN (xf_ft (o := tabAt n ps ts par L L.length) ?mk).x fun o Γ' ⟨e1, e2⟩ As => ?_)
    case mk =>
      have e : (rngI 0 n.toNat).map (fun p => if p ∈ L.drop L.length then rowO (tabT n ps ts par p) else OD.c .lst []) = L.map fun _ => OD.c .lst [] := by
        refine List.ext_getElem? fun k => ?_
        rw [List.getElem?_map, List.getElem?_map]
        by_cases hk : k < L.length
        · rw [List.getElem?_eq_getElem hk, List.getElem?_eq_getElem (l := rngI 0 n.toNat) (i := k) (by omega)]
          show some (if _ then _ else _) = _
          rw [if_neg (by rw [List.drop_length]; exact List.not_mem_nil)]
          rfl
        · rw [List.getElem?_eq_none (by omega), List.getElem?_eq_none (by omega)]
          rfl
      unfold tabAt
      rw [e]
      exact ft_lc L PyData.int (fun _ => .c .lst []) (nw_list (n_rd rfl rfl)) (by omega) (fun p hp => gn_1 (by decide)) fun p hp => ft_nil
    subst e1 e2
    refine s_seq (s_for L.reverse PyData.int (nw_is (nw_rev (na_cons (n_rd rfl rfl) na_nil)) (by rw [List.map_reverse])) (fun i Γ' => ∃ (As : List Addr) (x7 : Option Sl), i ≤ L.length ∧ Γ' = [some (.d (webD n ts)), some (.d (seqD t (ps.map .int))), some (.d (.list (L.map .int))), some (.q (TRq K (aboO L par))), some (.q (TRq K (wtsO ts par C))), some (.q (TRq K (behO par L (L.drop 1)))), some (nT K (tabAt n ps ts par L (L.length - i)) As), x7]) ⟨As, none, Nat.zero_le _, rfl⟩ (fun i p Γ' hp hI => ⟨_, gt_1, ?_⟩) (fun Γ' hI => ?_))
    · obtain ⟨As, x7, hil, rfl⟩ := hI
      obtain ⟨hi, hp⟩ := rev_at hp
      have hpr := hH.mem.mp (List.mem_of_getElem? hp)
      have hget : (behO par L (L.drop 1)).get [L.length - 1 - i] = some (intO (kidsAt par (L.drop 1) p)) := by
        unfold behO OD.get
        rw [List.getElem?_map, hp]
        rfl
      have hkid : ∀ c ∈ kidsAt par (L.drop 1) p, c ∈ kidsT n par p ∧ c ∈ L.drop (L.length - i) := fun c hc => by
        obtain ⟨h1, h2⟩ := List.mem_filter.mp hc
        have h2 := of_decide_eq_true h2
        obtain ⟨k, hk⟩ := List.getElem?_of_mem h1
        rw [List.getElem?_drop] at hk
        have hcm := hH.mem.mp (List.mem_of_getElem? hk)
        have hc0 : c ≠ 0 := fun z => by
          rw [z] at hk
          have := nd_at hH.nd hk hH.fst
          omega
        have hm : c ∈ kidsT n par p := kids_mem.mpr ⟨by omega, h2⟩
        obtain ⟨j, hj, hjc⟩ := hH.kid_idx hp hm
        refine ⟨hm, List.mem_of_getElem? (i := j - (L.length - i)) ?_⟩
        rw [List.getElem?_drop, show L.length - i + (j - (L.length - i)) = j by omega]
        exact hjc
      have hTab := tab_ok (ps := ps) hH
      refine s_setT (xf_callA (post := fun r => r = rowO (tabT n ps ts par p)) (et_cons (et_at ep_var (it_o rfl) rfl) (et_cons (et_at ep_var (it_q rfl) rfl) (et_cons (et_d (n_rd rfl rfl)) (et_cons (et_d (n_rd rfl rfl)) (et_cons (et_at (ep_dget (ki := L) (os := L.map fun p => intO (kidsAt par (L.drop 1) p)) ep_var (it_q rfl) rfl (n_rd rfl rfl) hH.nd hp) (it_q rfl) hget) et_nil))))) ?call ?lf).x fun o' Γ' ⟨e1, e2⟩ => ?_
      case call =>
        refine ⟨_, _, t, ps, p, n, ts, par, tabT n ps ts par, (rngI 0 n.toNat).map fun q => if q ∈ L.drop (L.length - i) then rwD (tabT n ps ts par q) else .list [], C, kidsAt par (L.drop 1) p, rfl, ?_, ?_, ⟨hC1, hCl⟩, ⟨fun c hc => ?_, ?_⟩, ⟨hP2, hP1⟩, hne, fun c hc => ?_, fun c hc => ?_, ?_⟩
        · unfold tabAt OD.asD
          rw [asDs_map (g := fun q => if q ∈ L.drop (L.length - i) then rwD (tabT n ps ts par q) else .list [])]
          · rfl
          · intro q _
            split
            · exact rowO_asD _
            · unfold OD.asD asDs
              rfl
        · unfold intO OD.asD
          rw [asDs_d]
          rfl
        · have := (kids_mem.mp (hkid c hc).1).1
          exact ⟨(hC2 c).mpr this, by omega⟩
        · have h1 : (kidsAt par (L.drop 1) p).length ≤ (L.drop 1).length := List.length_filter_le _ _
          rw [List.length_drop] at h1
          omega
        · have := (kids_mem.mp (hkid c hc).1).1
          have hc2 := hTab.row c (by omega)
          refine ⟨by rw [hc2]; exact row_open hne, by rw [hc2, row_len]; omega⟩
        · have := (kids_mem.mp (hkid c hc).1).1
          rw [List.getElem?_map, rngI_get (by omega)]
          show some (if (0 : Int) + ((c.toNat : Nat) : Int) ∈ _ then _ else _) = _
          rw [show (0 : Int) + ((c.toNat : Nat) : Int) = c by omega, if_pos (hkid c hc).2]
        · funext r
          refine propext ⟨fun h => ?_, fun h => ?_⟩
          · rw [h, hTab.row p hpr]
            congr 2
            funext k
            exact (sum_kids hH p fun c => cheapR (tabT n ps ts par c) (wUp ts par c) k).symm
          · rw [h, hTab.row p hpr]
            congr 2
            funext k
            exact sum_kids hH p fun c => cheapR (tabT n ps ts par c) (wUp ts par c) k
      case lf =>
        intro r e
        rw [e]
        unfold rowO OD.lf
        rw [lfs_d]
        exact rowO_noL _
      subst e1 e2
      refine ⟨none, 6, [], _, As, _, p, p.toNat, ⟨rfl, ep_var, rfl⟩, n_rd rfl rfl, ?ix, fun As2 => ⟨As2, some (.d (.int p)), by omega, ?fin⟩⟩
      case ix =>
        unfold ixN
        rw [List.length_map, rngI_len, if_pos (by omega), if_pos (by omega)]
      case fin =>
        have : ((rngI 0 n.toNat).map fun q => if q ∈ L.drop (L.length - i) then rowO (tabT n ps ts par q) else OD.c .lst []).set p.toNat (rowO (tabT n ps ts par p)) = (rngI 0 n.toNat).map fun q => if q ∈ L.drop (L.length - (i + 1)) then rowO (tabT n ps ts par q) else OD.c .lst [] := by
          refine List.ext_getElem? fun k => ?_
          rw [List.getElem?_map]
          by_cases hk : k < n.toNat
          · have hdr : ∀ q, q ∈ L.drop (L.length - (i + 1)) ↔ q = p ∨ q ∈ L.drop (L.length - i) := fun q => by
              have e2 : L.drop (L.length - (i + 1)) = p :: L.drop (L.length - i) := by
                rw [show L.length - (i + 1) = L.length - 1 - i by omega, List.drop_eq_getElem_cons (by omega : L.length - 1 - i < L.length), show L.length - 1 - i + 1 = L.length - i by omega]
                congr 1
                have := (List.getElem?_eq_some_iff.mp hp).2
                exact this
              rw [e2, List.mem_cons]
            rw [rngI_get hk]
            by_cases e : p.toNat = k
            · subst e
              rw [List.getElem?_set_self (by rw [List.length_map, rngI_len]; exact hk)]
              show some _ = some (if _ then _ else _)
              rw [show (0 : Int) + ((p.toNat : Nat) : Int) = p by omega, if_pos ((hdr p).mpr (.inl rfl))]
            · rw [List.getElem?_set_ne e, List.getElem?_map, rngI_get hk]
              show some (if _ then _ else _) = some (if _ then _ else _)
              have hne2 : (0 : Int) + (k : Int) ≠ p := by omega
              by_cases z : (0 : Int) + (k : Int) ∈ L.drop (L.length - i)
              · rw [if_pos z, if_pos ((hdr _).mpr (.inr z))]
              · rw [if_neg z, if_neg fun y => ((hdr _).mp y).elim hne2 z]
          · rw [List.getElem?_eq_none (by rw [List.length_set, List.length_map, rngI_len]; omega), List.getElem?_eq_none (by rw [rngI_len]; omega)]
            rfl
        show _ = [_, _, _, _, _, _, some (nT K (.c .lst _) As2), _]
        rw [← this]
        rfl
    obtain ⟨As, x7, _, rfl⟩ := hI
    refine s_retT (xf_var rfl).x fun o Γ' ⟨e, _⟩ => ⟨L, par, hH, ?_⟩
    rw [e]
    unfold tabAt tabO
    congr 1
    refine List.map_congr_left fun p hp => ?_
    have hp := rngI_mem.mp hp
    rw [List.length_reverse, Nat.sub_self, List.drop_zero, if_pos (hH.mem.mpr (by omega))]
end
end Pw

/-! ## K41_least_of -/
namespace Pw
open PySem L2 Evl
def fLeastOf (os : List OD) (post : OD → Prop) : Prop := ∃ (o : OD) (r : Row), os = [o] ∧ o.asD = some (rwD r) ∧ openR r ∧ r.length ≤ 100 ∧ post = fun x => x = .d (.int (cheapR r 0 0))

section
variable {P : Program} {w : World} {K : PySem.W.Frag} {mg : Str → Option Value} {base : Heap}
theorem sc_least_of : FnScope nm_least_of ps_least_of (defScope s_least_of) := ⟨rfl, rfl, rfl, by decide +kernel, rfl, by decide +kernel, by decide +kernel⟩
theorem ok_least_of {f : Addr} {fd : FuncData} (T : Txt mg) (Ds : Defs K mg) (D : Dfn K mg "least_of" s_least_of ps_least_of f fd) : FnOk P w K mg base CX0 2 f fd ps_least_of (spT K fLeastOf) := by
  obtain ⟨f_cheapest, fd_cheapest, D_cheapest⟩ := Ds.d_cheapest
  have G_cheapest := ok_cheapest (P := P) (w := w) (base := base) T Ds D_cheapest
  refine D.F.ok sc_least_of (fun vs H Q E h => ?_) (fun cdv A outer s H vs Q E hr h => ?_)
  · obtain ⟨S, B, os, post, w, hd, ⟨o, r, rfl, _⟩, _⟩ := h
    exact TqAll.length hd
  · obtain ⟨S, B, os, post, w, hd, ⟨o, r, rfl, ho, hr1, hl, rfl⟩, q⟩ := h
    have hr_cheapest := hr.mono (show 1 ≤ 1 by decide)
    obtain ⟨v1, rfl, h1⟩ := tq1 hd
    refine ⟨_, (pss_one (ps_ret (pe_call G_cheapest hr_cheapest (by rfl) D_cheapest.g D_cheapest.F.kp D_cheapest.b .nil pass0 (pa_cons (pv 0) (pa_cons pe_int (pa_cons pe_int pa_nil)))))), ?_⟩
    refine fn_T w (sl_some (s := .q (TRq K _)) ⟨stays_TRq, h1⟩ sl_nil) rfl ?_ q
    exact s_ret (n_callT (post := fun x => x = .d (.int (cheapR r 0 0))) (et_cons (et_at ep_var (it_q rfl) rfl) (et_cons (et_d n_int) (et_cons (et_d n_int) et_nil))) ⟨o, r, 0, 0, rfl, ho, hr1, hl, rfl⟩ fun r e => by rw [e]; rfl) rfl
end
end Pw

/-! ## K41_least_on_tree -/
namespace Pw
open PySem L2 Evl
structure TreeOwn (n : Int) (ps os : List Int) : Prop where
  len : os.length = n.toNat
  own : ∀ p ∈ ps, nmA os p = p
  mem : ∀ x ∈ os, x ∈ ps
def costW (ts : List Tie) (os : List Int) : Int := (ts.map fun t => if nmA os t.1 = nmA os t.2.1 then 0 else t.2.2).sum
def leastT (n : Int) (ps : List Int) (ts : List Tie) (par : Int → Int) : Int := cheapR (tabT n ps ts par 0) 0 0
def rowW (r : Row) (w : Int) (k : Nat) : Row := r.zipIdx.map fun q => q.1.map fun c => c + w * (if q.2 = k then 0 else 1)
/-- the place of the least of a row -/
def idxR (r : Row) (v : Int) : Nat := r.findIdx fun x => decide (x = some v)
/-- which post's number is chosen for each place: the first of the least -/
structure NumEq (n : Int) (ps : List Int) (ts : List Tie) (par : Int → Int) (ow : Int → Nat) : Prop where
  e0 : ow 0 = idxR (tabT n ps ts par 0) (leastT n ps ts par)
  eu : ∀ c, 0 < c ∧ c < n → ow c = idxR (rowW (tabT n ps ts par c) (wUp ts par c) (ow (par c))) (cheapR (tabT n ps ts par c) (wUp ts par c) (ow (par c)))
def ownsN (n : Int) (ps : List Int) (ow : Int → Nat) : List Int := (rngI 0 n.toNat).map fun p => ps.getD (ow p) 0
def leastO (n : Int) (ps : List Int) (ts : List Tie) (par : Int → Int) (ow : Int → Nat) : OD := .t [.d (.int (leastT n ps ts par)), .d (.tuple ((ownsN n ps ow).map .int)), tabO n ps ts par]
def fLeastTree (os : List OD) (post : OD → Prop) : Prop := ∃ (n : Int) (ts : List Tie) (t : Bool) (ps : List Int), os = [.d (webD n ts), .d (seqD t (ps.map .int))] ∧ TreeW n ts ∧ n ≤ 60 ∧ (ps.Nodup ∧ ps.length ≤ 60 ∧ ∀ p ∈ ps, 0 ≤ p ∧ p < n) ∧ ps ≠ [] ∧
  post = fun r => ∃ L par ow, Hung n ts L par ∧ NumEq n ps ts par ow ∧ TreeOwn n ps (ownsN n ps ow) ∧ costW ts (ownsN n ps ow) = leastT n ps ts par ∧ r = leastO n ps ts par ow
theorem num_one {n : Int} {ps : List Int} {ts : List Tie} {L L' : List Int} {par par' : Int → Int} {ow ow' : Int → Nat} (T : TreeW n ts) (h : Hung n ts L par) (h' : Hung n ts L' par') (e : NumEq n ps ts par ow) (e' : NumEq n ps ts par' ow') : ∀ (k i : Nat) (c : Int), i ≤ k → L[i]? = some c → ow c = ow' c
  | k, 0, c, _, hc => by
    rw [h.fst] at hc
    cases hc
    have et := tab_one (ps := ps) T h h'
    rw [e.e0, e'.e0]
    unfold leastT
    rw [et]
  | 0, i + 1, c, hk, _ => by omega
  | k + 1, i + 1, c, hk, hc => by
    have hc0 : 0 < c ∧ c < n := by
      have := h.mem.mp (List.mem_of_getElem? hc)
      refine ⟨?_, this.2⟩
      by_cases z : c = 0
      · subst z
        have := nd_at h.nd hc h.fst
        omega
      · omega
    obtain ⟨j, hj, hp⟩ := h.above i c hc
    have ih := num_one T h h' e e' k j (par c) (by omega) hp
    have ep := h.par_eq T h' hc0
    have et := tab_one (ps := ps) T h h'
    have ew : wUp ts par c = wUp ts par' c := by
      unfold wUp
      rw [ep]
    rw [e.eu c hc0, e'.eu c hc0, ← ep, ← ih, et, ew]
theorem least_one {n : Int} {ps : List Int} {ts : List Tie} {L L' : List Int} {par par' : Int → Int} {ow ow' : Int → Nat} (T : TreeW n ts) (h : Hung n ts L par) (h' : Hung n ts L' par') (e : NumEq n ps ts par ow) (e' : NumEq n ps ts par' ow') : leastO n ps ts par ow = leastO n ps ts par' ow' := by
  have et := tab_one (ps := ps) T h h'
  have eo : ownsN n ps ow = ownsN n ps ow' := List.map_congr_left fun p hp => by
    have hp := rngI_mem.mp hp
    obtain ⟨i, hi⟩ := List.getElem?_of_mem (h.mem.mpr (show 0 ≤ p ∧ p < n by omega))
    rw [num_one T h h' e e' i i p (Nat.le_refl _) hi]
  unfold leastO leastT tabO
  rw [et, eo]
theorem rowW_at {r : Row} {w : Int} {k j : Nat} : (rowW r w k)[j]? = (r[j]?).map fun x => x.map fun c => c + w * (if j = k then 0 else 1) := by
  unfold rowW
  rw [List.getElem?_map, List.getElem?_zipIdx, Option.map_map]
  cases r[j]? with
  | none => rfl
  | some x =>
    show some (x.map fun c => c + w * (if 0 + j = k then 0 else 1)) = _
    rw [Nat.zero_add]
    rfl
theorem cheap_rowW (r : Row) (w : Int) (k : Nat) (h : openR r) : cheapR (rowW r w k) 0 0 = cheapR r w k := by
  have h2 : openR (rowW r w k) := by
    obtain ⟨j, c, hj⟩ := h
    exact ⟨j, c + w * (if j = k then 0 else 1), by rw [rowW_at, hj]; rfl⟩
  obtain ⟨j, c, hj, e⟩ := cheap_at (w := w) (k := k) h
  obtain ⟨j', c', hj', e'⟩ := cheap_at (w := 0) (k := 0) h2
  have l1 := cheap_le (w := 0) (k := 0) (r := rowW r w k) (j := j) (c := c + w * (if j = k then 0 else 1)) (by rw [rowW_at, hj]; rfl)
  rw [rowW_at] at hj'
  cases hx : r[j']? with
  | none =>
    rw [hx] at hj'
    cases hj'
  | some x =>
    rw [hx] at hj'
    cases x with
    | none => cases hj'
    | some c0 =>
      have : c0 + w * (if j' = k then 0 else 1) = c' := by
        have := Option.some.inj (Option.some.inj hj')
        exact this
      have l2 := cheap_le (w := w) (k := k) hx
      rw [Int.zero_mul] at l1 e'
      omega
theorem idxR_ok {r : Row} {v : Int} (hv : some v ∈ r) : r[idxR r v]? = some (some v) ∧ ∀ m z, m < idxR r v → r[m]? = some z → z ≠ some v := by
  have hl : idxR r v < r.length := List.findIdx_lt_length_of_exists ⟨_, hv, decide_eq_true rfl⟩
  refine ⟨?_, fun m z hm hz e => ?_⟩
  · have h := List.findIdx_getElem (p := fun x => decide (x = some v)) (xs := r) (w := hl)
    rw [List.getElem?_eq_getElem hl]
    exact congrArg some (of_decide_eq_true h)
  · have h := List.not_of_lt_findIdx (p := fun x => decide (x = some v)) hm
    have h2 := (List.getElem?_eq_some_iff.mp hz).2
    rw [h2, e] at h
    simp at h
theorem n_indexR {K : PySem.W.Frag} {Γ : En0} {te ta : TE} {r : Row} {v : Int} (h : EE K te Γ (rwD r)) (ha : EE K ta Γ (.int v)) (hv : some v ∈ r) : EE K (tBM K "list" (rIndexD K) te (tCons ta tNil)) Γ (.int (idxR r v : Nat)) := by
  obtain ⟨hj, hmin⟩ := idxR_ok hv
  have sh : ∀ x : Option Int, Shp 0 (oI x) := fun x => by
    cases x with
    | none => exact ⟨by simp [oI, PyData.canLay0], by simp [oI, PyData.depth]⟩
    | some c => exact shp_int
  have shr : SeqAt.shaped (rwD r) = true := (shp_list (n := 0) fun x hx => by
    obtain ⟨y, _, rfl⟩ := List.mem_map.mp hx
    exact sh y).shaped (by decide)
  have shi : SeqAt.shaped (.int v) = true := rfl
  refine fun σ B e => evR_of (fun S H w Q q => (h σ B e).bind w fun x B1 H1 e1 eB1 w1 hx => ?_) stays_dp
  cases hx with
  | @lst l xs _ hs hd =>
  refine ⟨.inl ⟨rfl, _, ex_l w1.ex hs⟩, ((ha σ B e).mono eB1).bind w1 fun u B2 H2 e2 eB2 w2 hu => ?_⟩
  refine ⟨l, u, .int v, r.map oI, idxR r v, .int v, rfl, rfl, Dq.dp (Dq.mono (eB2.trans w2.ex) (.lst hs hd)), Dq.dp (Dq.mono w2.ex hu), shr, shi, ?_, eqv_refl' shi, fun m z hm hz => ?_, q _ B2 H2 (e1.trans e2) (eB1.trans eB2) w2 (.int _)⟩
  · rw [List.getElem?_map, hj]
    rfl
  · rw [List.getElem?_map] at hz
    obtain ⟨y, hy, rfl⟩ := Option.map_eq_some_iff.mp hz
    have hne := hmin m y hm hy
    cases y with
    | none => rfl
    | some c =>
      show PyData.eqv (.int c) (.int v) = false
      unfold PyData.eqv
      rw [beq_eq_false_iff_ne]
      exact fun z => hne (by rw [z])
/-- which numbers are chosen as far as one has come -/
structure Chosen (n : Int) (ps : List Int) (ts : List Tie) (par : Int → Int) (D : List Int) (ow : Int → Nat) : Prop where
  at_ : ∀ c ∈ D, (tabT n ps ts par c)[ow c]? = some (some (valR (tabT n ps ts par c) (ow c)))
  fst : valR (tabT n ps ts par 0) (ow 0) = leastT n ps ts par
  up : ∀ c ∈ D, c ≠ 0 → wUp ts par c * (if ow c = ow (par c) then 0 else 1) + valR (tabT n ps ts par c) (ow c) = cheapR (tabT n ps ts par c) (wUp ts par c) (ow (par c))
  e0 : ow 0 = idxR (tabT n ps ts par 0) (leastT n ps ts par)
  eu : ∀ c ∈ D, c ≠ 0 → ow c = idxR (rowW (tabT n ps ts par c) (wUp ts par c) (ow (par c))) (cheapR (tabT n ps ts par c) (wUp ts par c) (ow (par c)))
def numsO (D : List Int) (ow : Int → Nat) : OD := .c (.dK (kI D)) (D.map fun c => .d (.int (ow c : Nat)))
theorem val_of {r : Row} {k : Nat} {c : Int} (h : r[k]? = some (some c)) : valR r k = c := by
  unfold valR
  rw [h]
  rfl
theorem tab_get {n : Int} {ps : List Int} {ts : List Tie} {par : Int → Int} {p : Int} (hp : 0 ≤ p ∧ p < n) : (tabO n ps ts par).get [p.toNat] = some (rowO (tabT n ps ts par p)) := by
  unfold tabO OD.get
  rw [List.getElem?_map, rngI_get (by omega), show (0 : Int) + ((p.toNat : Nat) : Int) = p by omega]
  rfl
theorem ix_tab {n p : Int} {f : Int → OD} (hp : 0 ≤ p ∧ p < n) : ixN ((rngI 0 n.toNat).map f).length p = some p.toNat := by
  unfold ixN
  rw [List.length_map, rngI_len, if_pos (by omega), if_pos (by omega)]
/-! what the chosen numbers are good for -/
theorem num_at {n : Int} {ps : List Int} {ts : List Tie} {L : List Int} {par : Int → Int} {ow : Int → Nat} (hH : Hung n ts L par) (hne : ps ≠ []) (e : NumEq n ps ts par ow) {p : Int} (hp : 0 ≤ p ∧ p < n) : (tabT n ps ts par p)[ow p]? = some (some (valR (tabT n ps ts par p) (ow p))) ∧ (p = 0 → valR (tabT n ps ts par 0) (ow 0) = leastT n ps ts par) ∧ (p ≠ 0 → wUp ts par p * (if ow p = ow (par p) then 0 else 1) + valR (tabT n ps ts par p) (ow p) = cheapR (tabT n ps ts par p) (wUp ts par p) (ow (par p))) := by
  have hTab := tab_ok (ps := ps) hH
  have hop : openR (tabT n ps ts par p) := by
    rw [hTab.row p hp]
    exact row_open hne
  by_cases h0 : p = 0
  · subst h0
    have hlow : some (leastT n ps ts par) ∈ tabT n ps ts par 0 := by
      obtain ⟨j, c, hj, e⟩ := cheap_at (w := 0) (k := 0) hop
      rw [Int.zero_mul, Int.add_zero] at e
      have : leastT n ps ts par = c := e
      rw [this]
      exact List.mem_of_getElem? hj
    have hk := (idxR_ok hlow).1
    rw [← e.e0] at hk
    rw [val_of hk]
    exact ⟨hk, fun _ => rfl, fun z => absurd rfl z⟩
  · have hc : 0 < p ∧ p < n := by omega
    have hmem : some (cheapR (tabT n ps ts par p) (wUp ts par p) (ow (par p))) ∈ rowW (tabT n ps ts par p) (wUp ts par p) (ow (par p)) := by
      obtain ⟨j, c, hj, e⟩ := cheap_at (w := wUp ts par p) (k := ow (par p)) hop
      rw [e]
      exact List.mem_of_getElem? (i := j) (by rw [rowW_at, hj]; rfl)
    have hk := (idxR_ok hmem).1
    rw [← e.eu p hc, rowW_at] at hk
    obtain ⟨x, hx, ex⟩ := Option.map_eq_some_iff.mp hk
    cases x with
    | none => cases ex
    | some c =>
      have ec : c + wUp ts par p * (if ow p = ow (par p) then 0 else 1) = cheapR (tabT n ps ts par p) (wUp ts par p) (ow (par p)) := Option.some.inj ex
      rw [val_of hx]
      exact ⟨hx, fun z => absurd z h0, fun _ => by omega⟩
theorem owns_at {n : Int} {ps : List Int} {ow : Int → Nat} (h : NumsOk n ps ow) {p : Int} (hp : 0 ≤ p ∧ p < n) : ps[ow p]? = some (nmA (ownsN n ps ow) p) := by
  have hl := h.lt p hp
  have : nmA (ownsN n ps ow) p = ps.getD (ow p) 0 := by
    unfold nmA ownsN
    rw [List.getElem?_map, rngI_get (by omega), show (0 : Int) + ((p.toNat : Nat) : Int) = p by omega]
    rfl
  rw [this, List.getD_eq_getElem?_getD, List.getElem?_eq_getElem hl]
  rfl
theorem num_ok {n : Int} {ps : List Int} {ts : List Tie} {L : List Int} {par : Int → Int} {ow : Int → Nat} (T : TreeW n ts) (hH : Hung n ts L par) (hP1 : ps.Nodup) (hP3 : ∀ p ∈ ps, 0 ≤ p ∧ p < n) (hne : ps ≠ []) (e : NumEq n ps ts par ow) : TreeOwn n ps (ownsN n ps ow) ∧ costW ts (ownsN n ps ow) = leastT n ps ts par := by
  have hTab := tab_ok (ps := ps) hH
  have hnums : NumsOk n ps ow := by
    refine ⟨fun p hp => ?_, fun p hp => ?_⟩
    · have := (List.getElem?_eq_some_iff.mp (num_at hH hne e hp).1).1
      rw [hTab.row p hp, row_len] at this
      exact this
    · have h1 := (num_at hH hne e hp).1
      have hlt := (List.getElem?_eq_some_iff.mp h1).1
      rw [hTab.row p hp, row_len] at hlt
      rw [hTab.row p hp, row_at hlt] at h1
      cases hb : blocked ps p (ow p) with
      | false => rfl
      | true =>
        rw [hb] at h1
        cases h1
  have hnm : ∀ p, 0 ≤ p ∧ p < n → ps[ow p]? = some (nmA (ownsN n ps ow) p) := fun p hp => owns_at hnums hp
  refine ⟨⟨by unfold ownsN; rw [List.length_map, rngI_len], fun p hp => ?_, fun x hx => ?_⟩, ?_⟩
  · have hb := hnums.ok p (hP3 p hp)
    unfold blocked at hb
    rw [decide_eq_true hp, Bool.true_and, Bool.not_eq_false', decide_eq_true_iff, hnm p (hP3 p hp)] at hb
    exact Option.some.inj hb
  · unfold ownsN at hx
    obtain ⟨p, hp, rfl⟩ := List.mem_map.mp hx
    have hp := rngI_mem.mp hp
    have hl := hnums.lt p (by omega)
    rw [List.getD_eq_getElem?_getD, List.getElem?_eq_getElem hl]
    exact List.getElem_mem hl
  · have h1 : costW ts (ownsN n ps ow) = costT ts ow := by
      unfold costW costT
      refine congrArg List.sum (List.map_congr_left fun t ht => ?_)
      have hr := T.web.tie t ht
      have a1 := hnm t.1 (by omega)
      have a2 := hnm t.2.1 (by omega)
      by_cases z : ow t.1 = ow t.2.1
      · rw [z, a2] at a1
        rw [if_pos z, if_pos (Option.some.inj a1).symm]
      · rw [if_neg z, if_neg fun y => z (nd_at hP1 (by rw [y] at a1; exact a1) a2)]
    rw [h1]
    exact tree_hit T hH hTab hnums ((num_at hH hne e ⟨Int.le_refl 0, hH.pos⟩).2.1 rfl) fun c hc => (num_at hH hne e (by omega)).2.2 (by omega)
/-- the numbers chosen, reckoned down from the first place -/
def owF (n : Int) (ps : List Int) (ts : List Tie) (par : Int → Int) : Nat → Int → Nat
  | 0, _ => idxR (tabT n ps ts par 0) (leastT n ps ts par)
  | f + 1, c => if c = 0 then idxR (tabT n ps ts par 0) (leastT n ps ts par) else idxR (rowW (tabT n ps ts par c) (wUp ts par c) (owF n ps ts par f (par c))) (cheapR (tabT n ps ts par c) (wUp ts par c) (owF n ps ts par f (par c)))
theorem owF_fuel {n : Int} {ps : List Int} {ts : List Tie} {L : List Int} {par : Int → Int} (hH : Hung n ts L par) : ∀ (f i : Nat) (c : Int), L[i]? = some c → i ≤ f → owF n ps ts par f c = owF n ps ts par (f + 1) c
  | 0, i, c, hc, hi => by
    have : i = 0 := by omega
    subst this
    rw [hH.fst] at hc
    cases hc
    rfl
  | f + 1, i, c, hc, hi => by
    by_cases h0 : c = 0
    · show (if c = 0 then _ else _) = (if c = 0 then _ else _)
      rw [if_pos h0, if_pos h0]
    · show (if c = 0 then _ else _) = (if c = 0 then _ else _)
      rw [if_neg h0, if_neg h0]
      cases i with
      | zero =>
        rw [hH.fst] at hc
        exact absurd (Option.some.inj hc).symm h0
      | succ i =>
        obtain ⟨j, hj, hp⟩ := hH.above i c hc
        rw [owF_fuel hH f j (par c) hp (by omega)]
theorem owF_eq {n : Int} {ps : List Int} {ts : List Tie} {L : List Int} {par : Int → Int} (hH : Hung n ts L par) : NumEq n ps ts par (owF n ps ts par n.toNat) := by
  have hpos := hH.pos
  obtain ⟨k, hk⟩ : ∃ k, n.toNat = k + 1 := ⟨n.toNat - 1, by omega⟩
  rw [hk]
  refine ⟨?_, fun c hc => ?_⟩
  · show (if (0 : Int) = 0 then _ else _) = _
    rw [if_pos rfl]
  · have hc0 : c ≠ 0 := by omega
    obtain ⟨i, hi⟩ := hH.idx hc
    obtain ⟨j, hj, hp⟩ := hH.above i c hi
    have hil := (List.getElem?_eq_some_iff.mp hi).1
    have hl := hH.len
    have e := owF_fuel (ps := ps) hH k j (par c) hp (by omega)
    show (if c = 0 then _ else _) = _
    rw [if_neg hc0, e]
def tabD (n : Int) (ps : List Int) (ts : List Tie) (par : Int → Int) : PyData := .list ((rngI 0 n.toNat).map fun p => rwD (tabT n ps ts par p))
def leastD (n : Int) (ps : List Int) (ts : List Tie) (par : Int → Int) (ow : Int → Nat) : PyData := .tuple [.int (leastT n ps ts par), .tuple ((ownsN n ps ow).map .int), tabD n ps ts par]
theorem tabO_asD (n : Int) (ps : List Int) (ts : List Tie) (par : Int → Int) : (tabO n ps ts par).asD = some (tabD n ps ts par) := by
  unfold tabO OD.asD
  rw [asDs_map (g := fun p => rwD (tabT n ps ts par p)) fun p _ => rowO_asD _]
  rfl
theorem leastO_asD (n : Int) (ps : List Int) (ts : List Tie) (par : Int → Int) (ow : Int → Nat) : (leastO n ps ts par ow).asD = some (leastD n ps ts par ow) := by
  unfold leastO OD.asD asDs OD.asD asDs OD.asD asDs
  rw [tabO_asD]
  unfold asDs
  rfl

section
variable {P : Program} {w : World} {K : PySem.W.Frag} {mg : Str → Option Value} {base : Heap}
theorem sc_least_on_tree : FnScope nm_least_on_tree ps_least_on_tree (defScope s_least_on_tree) := ⟨rfl, rfl, rfl, by decide +kernel, rfl, by decide +kernel, by decide +kernel⟩
theorem ok_least_on_tree {f : Addr} {fd : FuncData} (T : Txt mg) (Ds : Defs K mg) (D : Dfn K mg "least_on_tree" s_least_on_tree ps_least_on_tree f fd) : FnOk P w K mg base CX0 4 f fd ps_least_on_tree (spT K fLeastTree) := by
  obtain ⟨f_hung, fd_hung, D_hung⟩ := Ds.d_hung
  have G_hung := ok_hung (P := P) (w := w) (base := base) T Ds D_hung
  obtain ⟨f_weights_above, fd_weights_above, D_weights_above⟩ := Ds.d_weights_above
  have G_weights_above := ok_weights_above (P := P) (w := w) (base := base) T Ds D_weights_above
  obtain ⟨f_table_of, fd_table_of, D_table_of⟩ := Ds.d_table_of
  have G_table_of := ok_table_of (P := P) (w := w) (base := base) T Ds D_table_of
  obtain ⟨f_least_of, fd_least_of, D_least_of⟩ := Ds.d_least_of
  have G_least_of := ok_least_of (P := P) (w := w) (base := base) T Ds D_least_of
  refine D.F.ok sc_least_on_tree (fun vs H Q E h => ?_) (fun cdv A outer s H vs Q E hr h => ?_)
  · obtain ⟨S, B, os, post, w, hd, ⟨n, ts, t, ps, rfl, _⟩, _⟩ := h
    exact TqAll.length hd
  · obtain ⟨S, B, os, post, w, hd, ⟨n, ts, t, ps, rfl, hT, hn, hP, hne, rfl⟩, q⟩ := h
    have hr_hung := hr.mono (show 2 ≤ 3 by decide)
    have hr_weights_above := hr.mono (show 1 ≤ 3 by decide)
    have hr_table_of := hr.mono (show 3 ≤ 3 by decide)
    have hr_least_of := hr.mono (show 2 ≤ 3 by decide)
    obtain ⟨v1, v2, rfl, h1, h2⟩ := tq2 hd
    replace h1 := h1.dq
    replace h2 := h2.dq
    have hu := hu_of hr
    refine ⟨_, (pss_cons (ps_asg (pe_call G_hung hr_hung (by rfl) D_hung.g D_hung.F.kp D_hung.b .nil pass0 (pa_cons (pv 0) pa_nil)) (pg_tup (by rfl) (pgs_cons (pg_name (i := 2) sc_least_on_tree.nd rfl (Or.inl rfl)) (pgs_cons (pg_name (i := 3) sc_least_on_tree.nd rfl (Or.inl rfl)) pgs_nil))))
      (pss_cons (ps_set (i := 4) sc_least_on_tree.nd rfl (Or.inr rfl) (pe_call G_weights_above hr_weights_above (by rfl) D_weights_above.g D_weights_above.F.kp D_weights_above.b .nil pass0 (pa_cons (pv 0) (pa_cons (pv 3) pa_nil))))
      (pss_cons (ps_set (i := 5) sc_least_on_tree.nd rfl (Or.inl rfl) (pe_call G_table_of hr_table_of (by rfl) D_table_of.g D_table_of.F.kp D_table_of.b .nil pass0 (pa_cons (pv 0) (pa_cons (pv 1) pa_nil))))
      (pss_cons (ps_set (i := 6) sc_least_on_tree.nd rfl (Or.inr rfl) (pe_disp (pps_cons pe_int (pe_bm PySem.F.plainAttrs_list PySem.F.slot_list_index PySem.F.type_list_index (mt_indexD hr.units65) (pe_ix ix_list (pv 5) pe_int (fun _ _ => rfl)) (pa_cons (pe_call G_least_of hr_least_of (by rfl) D_least_of.g D_least_of.F.kp D_least_of.b .nil pass0 (pa_cons (pe_ix ix_list (pv 5) pe_int (fun _ _ => rfl)) pa_nil)) pa_nil)) pps_nil) rfl rfl (List.cons_ne_nil _ _) (Nat.le_of_ble_eq_true rfl)))
      (pss_cons (ps_for PassesOwn.never rfl (pi_list (pe_slice sl_list (pv 2) (po_some pe_int) po_none)) (pg_name (i := 7) sc_least_on_tree.nd rfl (Or.inr rfl))
        (pss_cons (ps_set (i := 8) sc_least_on_tree.nd rfl (Or.inr rfl) (pe_dget hu (pv 6) (pe_dget hu (pv 3) (pv 7) (fun _ _ => rfl)) (fun _ _ => rfl)))
        (pss_cons (ps_setLc (i := 9) (own := [("k", 10), ("cost", 11)]) (g := (gTup K 2 (gCons (gName 10) (gCons (gName 11) gNil)))) (by rfl) sc_least_on_tree.nd rfl rfl (sw_true rfl rfl rfl (by decide +kernel)) (pi_enumO false (by rfl) T.m_enumerate (pa_cons (pe_ix ix_list (pv 5) (pv 7) (fun _ _ => rfl)) pa_nil)) (blkOk_by (own := [("k", 10), ("cost", 11)]) (N := nm_least_on_tree) (sc := defScope s_least_on_tree) (by decide +kernel)) (fun _ _ _ _ _ => (pg_tup (by rfl) (pgs_cons (pg_name (i := 10) sc_least_on_tree.nd rfl (Or.inl rfl)) (pgs_cons (pg_name (i := 11) sc_least_on_tree.nd rfl (Or.inl rfl)) pgs_nil)))) (fun _ _ _ _ _ => pts_nil) (fun _ _ _ _ _ => (pe_ifExp (pt_cmpR op_isN (pv 11) pe_non (nomark _)) pe_non (pe_op op_add (pv 11) (pe_op op_mul (pe_dget hu (pv 4) (pv 7) (fun _ _ => rfl)) (pe_callTy (T := "int") call_int1 (by rfl) T.m_int (by decide +kernel) (pa_cons (pe_cmpR op_ne (pv 10) (pv 8) (nomark _)) pa_nil)))))))
        (pss_one (ps_dput hu (pv 6) (pv 7) (pe_bm PySem.F.plainAttrs_list PySem.F.slot_list_index PySem.F.type_list_index (mt_indexD hr.units65) (pv 9) (pa_cons (pe_call G_least_of hr_least_of (by rfl) D_least_of.g D_least_of.F.kp D_least_of.b .nil pass0 (pa_cons (pv 9) pa_nil)) pa_nil)) rfl)))))
      (pss_one (ps_ret (pe_tup (pa_cons (pe_call G_least_of hr_least_of (by rfl) D_least_of.g D_least_of.F.kp D_least_of.b .nil pass0 (pa_cons (pe_ix ix_list (pv 5) pe_int (fun _ _ => rfl)) pa_nil)) (pa_cons (pe_callTy call_tuple_of (by rfl) T.m_tuple (by decide +kernel) (pa_cons (pe_lc (own := [("place", 7)]) (g := (gName 7)) (by rfl) sc_least_on_tree.nd (pi_range1 (by rfl) T.m_range (pa_cons (pe_ix ix_tup (pv 0) pe_int (fun _ _ => rfl)) pa_nil)) (blkOk_by (own := [("place", 7)]) (N := nm_least_on_tree) (sc := defScope s_least_on_tree) (by decide +kernel)) (fun _ _ _ _ _ => (pg_name (i := 7) sc_least_on_tree.nd rfl (Or.inl rfl))) (fun _ _ _ _ _ => pts_nil) (fun _ _ _ _ _ => (pe_ix (r := rIx K) ix_seq (pv 1) (pe_dget hu (pv 6) (pv 7) (fun _ _ => rfl)) (fun _ _ => rfl)))) pa_nil)) (pa_cons (pv 5) pa_nil))))))))))), ?_⟩
    refine fn_T w (sl_some (s := .d _) h1 (sl_some (s := .d _) h2 (sl_none (sl_none (sl_none (sl_none (sl_none (sl_none (sl_none (sl_none (sl_none (sl_none sl_nil)))))))))))) rfl ?_ q
    obtain ⟨hP1, hP2, hP3⟩ := hP
    have hpos := hT.web.pos
    refine s_seq (s_asgT2 (i := 2) (j := 3) (n := 2) (by decide) (xf_call (post := fun r => ∃ L par, Hung n ts L par ∧ r = hungO L par) (et_cons (et_d (n_rd rfl rfl)) et_nil) ⟨n, ts, rfl, hT, hn, rfl⟩).x fun o Γ' ⟨⟨L, par, hH, e1⟩, e2⟩ => ⟨intO L, aboO L par, e1, fun A1 A2 => ?_⟩)
    subst e1 e2
    have hLl := hH.len
    have hL0 := hH.fst
    refine s_giveT (i := 2) (d := .list (L.map .int)) rfl rfl (by unfold intO OD.asD; rw [asDs_d]; rfl) ?_
    refine s_giveQ (i := 3) rfl rfl ?_
    refine s_seq (s_asgN (xf_call (post := fun r => ∃ C, C.Nodup ∧ (∀ c, c ∈ C ↔ 0 < c ∧ c < n) ∧ r = wtsO ts par C) (et_cons (et_d (n_rd rfl rfl)) (et_cons (et_at ep_var (it_q rfl) rfl) et_nil)) ⟨n, ts, L, par, rfl, hT, hH, hn, rfl⟩).x fun o Γ' ⟨⟨C, hC1, hC2, e1⟩, e2⟩ As => ?_)
    subst e1 e2
    refine s_giveQ (i := 4) rfl rfl ?_
    refine s_seq (s_asgN (xf_call (post := fun r => ∃ L par, Hung n ts L par ∧ r = tabO n ps ts par) (et_cons (et_d (n_rd rfl rfl)) (et_cons (et_d (n_rd rfl rfl)) et_nil)) ⟨n, ts, t, ps, rfl, hT, hn, ⟨hP1, hP2⟩, hne, rfl⟩).x fun o Γ' ⟨⟨L2, par2, hH2, e1⟩, e2⟩ As => ?_)
    have etab : tabO n ps ts par2 = tabO n ps ts par := by
      unfold tabO
      rw [tab_one hT hH2 hH]
    rw [etab] at e1
    subst e1 e2
    have hTab := tab_ok (ps := ps) hH
    have hop : ∀ p, 0 ≤ p ∧ p < n → openR (tabT n ps ts par p) ∧ (tabT n ps ts par p).length ≤ 100 := fun p hp => by
      rw [hTab.row p hp]
      exact ⟨row_open hne, by rw [row_len]; omega⟩
    have h0r : (0 : Int) ≤ 0 ∧ (0 : Int) < n := by omega
    have hrow : ∀ {Γ : En0} {te : TE} {p : Int} {i : Nat} {As : List Addr}, 0 ≤ p ∧ p < n → Γ[i]? = some (some (nT K (tabO n ps ts par) As)) → EE K te Γ (.int p) → EP K (tOp (rIxL K) (tVar i) te) Γ i [p.toNat] := fun hp hi h => ep_ix ep_var (it_o hi) rfl h (ix_tab hp)
    have hlow : some (leastT n ps ts par) ∈ tabT n ps ts par 0 := by
      obtain ⟨j, c, hj, e⟩ := cheap_at (w := 0) (k := 0) (hop 0 h0r).1
      rw [Int.zero_mul, Int.add_zero] at e
      have : leastT n ps ts par = c := e
      rw [this]
      exact List.mem_of_getElem? hj
    have hk0 := (idxR_ok hlow).1
    obtain ⟨k0, ek0⟩ : ∃ k0, k0 = idxR (tabT n ps ts par 0) (leastT n ps ts par) := ⟨_, rfl⟩
    rw [← ek0] at hk0
    refine s_seq (s_asgN (xf_ftA (o := numsO [0] fun _ => k0) (ft_disp1 n_int (ft_d (n_is (n_indexR (r := tabT n ps ts par 0) (v := leastT n ps ts par) (n_at (hrow h0r rfl n_int) (it_o rfl) (tab_get h0r) (rowO_asD _)) (n_callT (post := fun x => x = .d (.int (leastT n ps ts par))) (et_cons (et_at (hrow h0r rfl n_int) (it_o rfl) (tab_get h0r)) et_nil) ⟨_, _, rfl, rowO_asD _, (hop 0 h0r).1, (hop 0 h0r).2, rfl⟩ fun r e => by rw [e]; rfl) hlow) (by rw [← ek0])))) rfl).x fun o Γ' ⟨e1, e2⟩ As2 => ?_)
    subst e1 e2
    have hch0 : Chosen n ps ts par [0] fun _ => k0 := ⟨fun c hc => by rw [List.mem_singleton.mp hc, val_of hk0]; exact hk0, val_of hk0, fun c hc h => absurd (List.mem_singleton.mp hc) h, ek0, fun c hc h => absurd (List.mem_singleton.mp hc) h⟩
    have htk0 : L.take 1 = [0] := by
      cases L with
      | nil => simp at hL0
      | cons x L =>
        simp only [List.getElem?_cons_zero, Option.some.injEq] at hL0
        rw [hL0]
        rfl
    refine s_seq (s_for (L.drop 1) PyData.int (nw_is (nw_list (n_slL (ds := L.map .int) (n_rd rfl rfl) (np_some n_int) np_none)) (by rw [cutA_map]; exact congrArg (List.map PyData.int) (cutA_drop L 1))) (fun i Γ' => ∃ (ow : Int → Nat) (As As2 : List Addr) (x7 x8 x9 : Option Sl), Γ' = [some (.d (webD n ts)), some (.d (seqD t (ps.map .int))), some (.d (.list (L.map .int))), some (.q (TRq K (aboO L par))), some (.q (TRq K (wtsO ts par C))), some (nT K (tabO n ps ts par) As), some (nT K (numsO (L.take (i + 1)) ow) As2), x7, x8, x9, none, none] ∧ Chosen n ps ts par (L.take (i + 1)) ow) ⟨fun _ => k0, As, As2, none, none, none, by rw [htk0]; rfl, by rw [htk0]; exact hch0⟩ (fun i c Γ' hc hI => ⟨_, gt_1, ?_⟩) (fun Γ' hI => ?_))
    · obtain ⟨ow, As, As2, x7, x8, x9, rfl, hch⟩ := hI
      have hc1 : L[i + 1]? = some c := by
        rw [List.getElem?_drop, Nat.add_comm] at hc
        exact hc
      obtain ⟨j, hj, hp⟩ := hH.above i c hc1
      have hcm := hH.mem.mp (List.mem_of_getElem? hc1)
      have hc0 : c ≠ 0 := fun z => by
        rw [z] at hc1
        have := nd_at hH.nd hc1 hL0
        omega
      have hcr : 0 < c ∧ c < n := by omega
      have hil := (List.getElem?_eq_some_iff.mp hc1).1
      have hpt : (L.take (i + 1))[j]? = some (par c) := by
        rw [List.getElem?_take, if_pos (by omega)]
        exact hp
      have hct : c ∉ L.take (i + 1) := fun z => by
        obtain ⟨m, hm⟩ := List.getElem?_of_mem z
        rw [List.getElem?_take] at hm
        split at hm
        · have := nd_at hH.nd hm hc1
          omega
        · cases hm
      have hnt : (L.take (i + 1)).Nodup := hH.nd.sublist (List.take_sublist _ _)
      have hcC : c ∈ C := (hC2 c).mpr hcr
      obtain ⟨m, hm⟩ := List.getElem?_of_mem hcC
      have hsub1 : (aboO L par).get [i + 1] = some (.d (.int (par c))) := by
        unfold aboO OD.get
        rw [List.getElem?_map, hc1]
        show some (OD.d (parD par c)) = _
        unfold parD
        rw [if_neg hc0]
      have hsub2 : (numsO (L.take (i + 1)) ow).get [j] = some (.d (.int (ow (par c) : Nat))) := by
        unfold numsO OD.get
        rw [List.getElem?_map, hpt]
        rfl
      have hsub3 : (wtsO ts par C).get [m] = some (.d (.int (wUp ts par c))) := by
        unfold wtsO OD.get
        rw [List.getElem?_map, hm]
        rfl
      refine s_seq (s_asgA (d := .int (ow (par c) : Nat)) (n_at (ep_dget (ki := L.take (i + 1)) (os := (L.take (i + 1)).map fun c => .d (.int (ow c : Nat))) (j := j) ep_var (it_o rfl) rfl (n_at (ep_dget (ki := L) (os := L.map fun c => .d (parD par c)) (j := i + 1) ep_var (it_q rfl) rfl (n_rd rfl rfl) hH.nd hc1) (it_q rfl) hsub1 rfl) hnt hpt) (it_o rfl) hsub2 rfl) rfl ?_)
      refine s_seq (s_asgN (xf_eoA (ds := (rowW (tabT n ps ts par c) (wUp ts par c) (ow (par c))).map oI) (eo_is (eo_lc1 ((tabT n ps ts par c).zipIdx) (fun p => .tuple [.int (p.2 : Nat), oI p.1]) (fun q => oI (q.1.map fun x => x + wUp ts par c * (if q.2 = ow (par c) then 0 else 1))) (nw_enum (t := false) (e1 := oI) (xs := tabT n ps ts par c) (na_cons (n_at (hrow (by omega) rfl (n_rd rfl rfl)) (it_o rfl) (tab_get (by omega)) (rowO_asD _)) na_nil)) (by rw [List.length_zipIdx]; have := (hop c (by omega)).2; omega) fun q hq => nt (gn_tup rfl (gns_cons (gn_1 (by decide)) (gns_cons (gn_1 (by decide)) gns_nil))) nb_yes fun _ => ?elt) ?eq) (rowO_noL _)).x fun o Γ' ⟨e1, e2⟩ As3 => ?_)
      case elt =>
        obtain ⟨x, k⟩ := q
        cases x with
        | none => exact n_if (b := true) (nb_test (n_isN (d := .none) (n_rd rfl rfl) rfl)) (fun _ => n_non) (fun h => by cases h)
        | some x =>
          refine n_if (b := false) (nb_test (n_isN (d := .int x) (n_rd rfl rfl) rfl)) (fun h => by cases h) (fun _ => n_is (n_add (i := x) (n_rd rfl rfl) (n_mul (i := wUp ts par c) (n_at (ep_dget (ki := C) (os := C.map fun c => .d (.int (wUp ts par c))) (j := m) ep_var (it_q rfl) rfl (n_rd rfl rfl) hC1 hm) (it_q rfl) hsub3 rfl) (n_intB (n_neI (i := (k : Int)) (j := (ow (par c) : Int)) (n_rd rfl rfl) (n_rd rfl rfl))) (.inr ⟨by split <;> omega, by split <;> omega⟩))) ?_)
          show _ = PyData.int (x + wUp ts par c * (if k = ow (par c) then 0 else 1))
          by_cases z : k = ow (par c)
          · rw [if_pos z, if_neg (by rw [z]; simp)]
          · rw [if_neg z, if_pos (by simp; omega)]
      case eq =>
        unfold rowW
        rw [List.map_map]
        rfl
      subst e1 e2
      have hcheap := cheap_rowW (tabT n ps ts par c) (wUp ts par c) (ow (par c)) (hop c (by omega)).1
      obtain ⟨j0, c0, hj0, e0⟩ := cheap_at (w := wUp ts par c) (k := ow (par c)) (hop c (by omega)).1
      have hopW : openR (rowW (tabT n ps ts par c) (wUp ts par c) (ow (par c))) := ⟨j0, _, by rw [rowW_at, hj0]; rfl⟩
      have hlenW : (rowW (tabT n ps ts par c) (wUp ts par c) (ow (par c))).length ≤ 100 := by
        unfold rowW
        rw [List.length_map, List.length_zipIdx]
        exact (hop c (by omega)).2
      have hmemW : some (cheapR (tabT n ps ts par c) (wUp ts par c) (ow (par c))) ∈ rowW (tabT n ps ts par c) (wUp ts par c) (ow (par c)) := by
        rw [e0]
        exact List.mem_of_getElem? (i := j0) (by rw [rowW_at, hj0]; rfl)
      have hrd : (OD.c .lst (((rowW (tabT n ps ts par c) (wUp ts par c) (ow (par c))).map oI).map OD.d)).asD = some (rwD (rowW (tabT n ps ts par c) (wUp ts par c) (ow (par c)))) := rowO_asD _
      have hk1 := (idxR_ok hmemW).1
      obtain ⟨k1, ek1⟩ : ∃ k1, k1 = idxR (rowW (tabT n ps ts par c) (wUp ts par c) (ow (par c))) (cheapR (tabT n ps ts par c) (wUp ts par c) (ow (par c))) := ⟨_, rfl⟩
      rw [← ek1] at hk1
      refine s_dputT (ki := L.take (i + 1)) (z := c) (xf_a (d := .int (k1 : Nat)) (n_is (n_indexR (r := rowW (tabT n ps ts par c) (wUp ts par c) (ow (par c))) (v := cheapR (tabT n ps ts par c) (wUp ts par c) (ow (par c))) (n_at ep_var (it_o rfl) rfl hrd) (n_callT (post := fun x => x = .d (.int (cheapR (rowW (tabT n ps ts par c) (wUp ts par c) (ow (par c))) 0 0))) (et_cons (et_at ep_var (it_o rfl) rfl) et_nil) ⟨_, _, rfl, hrd, hopW, hlenW, rfl⟩ fun r e => by rw [e, ← hcheap]; rfl) hmemW) (by rw [← ek1])) rfl).x fun o' Γ' ⟨e1, e2⟩ => ?_
      subst e1 e2
      refine ⟨none, 6, [], numsO (L.take (i + 1)) ow, As2, _, ⟨rfl, ep_var, rfl⟩, hnt, by rw [List.length_take]; omega, n_rd rfl rfl, .inr ⟨hct, fun As4 => ⟨fun x => if x = c then k1 else ow x, As, As4, some (.d (.int c)), some (.d (.int (ow (par c) : Nat))), some (nT K (.c .lst (((rowW (tabT n ps ts par c) (wUp ts par c) (ow (par c))).map oI).map .d)) As3), ?fin, ?ch⟩⟩⟩
      case fin =>
        have e3 : L.take (i + 1 + 1) = L.take (i + 1) ++ [c] := by
          rw [List.take_add_one, hc1]
          rfl
        have e4 : (L.take (i + 1)).map (fun x => OD.d (.int ((if x = c then k1 else ow x : Nat) : Int))) = (L.take (i + 1)).map fun x => OD.d (.int (ow x : Nat)) := List.map_congr_left fun x hx => by
          have : x ≠ c := fun z => hct (z ▸ hx)
          rw [if_neg this]
        show _ = [_, _, _, _, _, _, some (nT K (numsO (L.take (i + 1 + 1)) _) As4), _, _, _, _, _]
        unfold numsO
        rw [e3, List.map_append (f := fun x => OD.d (.int ((if x = c then k1 else ow x : Nat) : Int))), e4]
        show _ = [_, _, _, _, _, _, some (nT K (.c _ (_ ++ [OD.d (.int ((if c = c then k1 else ow c : Nat) : Int))])) As4), _, _, _, _, _]
        rw [if_pos rfl]
        rfl
      case ch =>
        have e3 : L.take (i + 1 + 1) = L.take (i + 1) ++ [c] := by
          rw [List.take_add_one, hc1]
          rfl
        rw [e3]
        rw [rowW_at] at hk1
        obtain ⟨x1, hx1, ex1⟩ := Option.map_eq_some_iff.mp hk1
        cases x1 with
        | none => cases ex1
        | some c1 =>
        have ec1 : c1 + wUp ts par c * (if k1 = ow (par c) then 0 else 1) = cheapR (tabT n ps ts par c) (wUp ts par c) (ow (par c)) := by
          have := Option.some.inj ex1
          exact this
        have hpc : par c ≠ c := fun z => by
          rw [z] at hp
          have := nd_at hH.nd hp hc1
          omega
        have hpx : ∀ x, x ∈ L.take (i + 1) → x ≠ 0 → par x ≠ c := fun x hxm hx0 y => by
          obtain ⟨q, hq⟩ := List.getElem?_of_mem hxm
          rw [List.getElem?_take] at hq
          split at hq
          · cases q with
            | zero =>
              rw [hL0] at hq
              exact hx0 (Option.some.inj hq).symm
            | succ q =>
              obtain ⟨q', hq', hqp⟩ := hH.above q x hq
              rw [y] at hqp
              have := nd_at hH.nd hqp hc1
              omega
          · cases hq
        refine ⟨fun x hx => ?_, ?_, fun x hx hx0 => ?_, ?_, fun x hx hx0 => ?_⟩
        · show (tabT n ps ts par x)[if x = c then k1 else ow x]? = some (some (valR (tabT n ps ts par x) (if x = c then k1 else ow x)))
          by_cases z : x = c
          · subst z
            rw [if_pos rfl, val_of hx1]
            exact hx1
          · rw [if_neg z]
            rcases List.mem_append.mp hx with hx | hx
            · exact hch.at_ x hx
            · exact absurd (List.mem_singleton.mp hx) z
        · show valR (tabT n ps ts par 0) (if (0 : Int) = c then k1 else ow 0) = _
          rw [if_neg fun z => hc0 z.symm]
          exact hch.fst
        · show wUp ts par x * (if (if x = c then k1 else ow x) = (if par x = c then k1 else ow (par x)) then 0 else 1) + valR (tabT n ps ts par x) (if x = c then k1 else ow x) = cheapR (tabT n ps ts par x) (wUp ts par x) (if par x = c then k1 else ow (par x))
          by_cases z : x = c
          · subst z
            rw [if_pos rfl, if_neg hpc, val_of hx1]
            omega
          · rw [if_neg z]
            have hxm : x ∈ L.take (i + 1) := (List.mem_append.mp hx).resolve_right fun y => z (List.mem_singleton.mp y)
            rw [if_neg (hpx x hxm hx0)]
            exact hch.up x hxm hx0
        · show (if (0 : Int) = c then k1 else ow 0) = _
          rw [if_neg fun z => hc0 z.symm]
          exact hch.e0
        · show (if x = c then k1 else ow x) = idxR (rowW _ _ (if par x = c then k1 else ow (par x))) (cheapR _ _ (if par x = c then k1 else ow (par x)))
          by_cases z : x = c
          · subst z
            rw [if_pos rfl, if_neg hpc]
            exact ek1
          · rw [if_neg z]
            have hxm : x ∈ L.take (i + 1) := (List.mem_append.mp hx).resolve_right fun y => z (List.mem_singleton.mp y)
            rw [if_neg (hpx x hxm hx0)]
            exact hch.eu x hxm hx0
    obtain ⟨ow, As, As2, x7, x8, x9, rfl, hch⟩ := hI
    have htl : L.take ((L.drop 1).length + 1) = L := by
      rw [List.length_drop]
      exact List.take_of_length_le (by omega)
    rw [htl] at hch ⊢
    have hnums : NumsOk n ps ow := by
      refine ⟨fun p hp => ?_, fun p hp => ?_⟩
      · have := (List.getElem?_eq_some_iff.mp (hch.at_ p (hH.mem.mpr hp))).1
        rw [hTab.row p hp, row_len] at this
        exact this
      · have h1 := hch.at_ p (hH.mem.mpr hp)
        have hlt := (List.getElem?_eq_some_iff.mp h1).1
        rw [hTab.row p hp, row_len] at hlt
        rw [hTab.row p hp, row_at hlt] at h1
        cases hb : blocked ps p (ow p) with
        | false => rfl
        | true =>
          rw [hb] at h1
          cases h1
    obtain ⟨os, hos⟩ : ∃ os, os = ownsN n ps ow := ⟨_, rfl⟩
    have hos2 : os = (rngI 0 n.toNat).map fun p => ps.getD (ow p) 0 := hos
    have hnm : ∀ p, 0 ≤ p ∧ p < n → ps[ow p]? = some (nmA os p) := fun p hp => by
      have hl := hnums.lt p hp
      have : nmA os p = ps.getD (ow p) 0 := by
        unfold nmA
        rw [hos2, List.getElem?_map, rngI_get (by omega), show (0 : Int) + ((p.toNat : Nat) : Int) = p by omega]
        rfl
      rw [this, List.getD_eq_getElem?_getD, List.getElem?_eq_getElem hl]
      rfl
    have hOwn : TreeOwn n ps os := by
      refine ⟨by rw [hos2, List.length_map, rngI_len], fun p hp => ?_, fun x hx => ?_⟩
      · have hb := hnums.ok p (hP3 p hp)
        unfold blocked at hb
        rw [decide_eq_true hp, Bool.true_and, Bool.not_eq_false', decide_eq_true_iff, hnm p (hP3 p hp)] at hb
        exact Option.some.inj hb
      · rw [hos2] at hx
        obtain ⟨p, hp, rfl⟩ := List.mem_map.mp hx
        have hp := rngI_mem.mp hp
        have hl := hnums.lt p (by omega)
        rw [List.getD_eq_getElem?_getD, List.getElem?_eq_getElem hl]
        exact List.getElem_mem hl
    have hcost : costW ts os = leastT n ps ts par := by
      have h1 : costW ts os = costT ts ow := by
        unfold costW costT
        refine congrArg List.sum (List.map_congr_left fun t ht => ?_)
        have hr := hT.web.tie t ht
        have a1 := hnm t.1 (by omega)
        have a2 := hnm t.2.1 (by omega)
        by_cases z : ow t.1 = ow t.2.1
        · rw [z, a2] at a1
          rw [if_pos z, if_pos (Option.some.inj a1).symm]
        · rw [if_neg z, if_neg fun y => z (nd_at hP1 (by rw [y] at a1; exact a1) a2)]
      rw [h1]
      exact tree_hit hT hH hTab hnums hch.fst fun c hc => hch.up c (hH.mem.mpr (by omega)) (by omega)
    refine s_retT (xf_tup (xa_a (d := .int (leastT n ps ts par)) (n_callT (post := fun x => x = .d (.int (leastT n ps ts par))) (et_cons (et_at (hrow h0r rfl n_int) (it_o rfl) (tab_get h0r)) et_nil) ⟨_, _, rfl, rowO_asD _, (hop 0 h0r).1, (hop 0 h0r).2, rfl⟩ fun r e => by rw [e]; rfl) rfl (xa_a (d := .tuple (os.map .int)) (n_tuple (t := false) (ds := os.map .int) (n_is (n_lc1 (rngI 0 n.toNat) PyData.int (fun p => .int (nmA os p)) (nw_rng1 (j := n) (na_cons (n_ixT (d := .int n) (n_rd rfl rfl) n_int rfl) na_nil) (by omega)) (by rw [rngI_len]; omega) fun p hp => nt (gn_1 (by decide)) nb_yes fun _ => ?own) ?oseq)) ?nol (xa_1 (xf_name (i := 5) (io_n rfl))))) ?len).x ?post
    case own =>
      have hp := rngI_mem.mp hp
      have hp0 : 0 ≤ p ∧ p < n := by omega
      obtain ⟨k, hk⟩ := List.getElem?_of_mem (hH.mem.mpr hp0)
      have hget : (numsO L ow).get [k] = some (.d (.int (ow p : Nat))) := by
        unfold numsO OD.get
        rw [List.getElem?_map, hk]
        rfl
      exact n_ix (t := t) (ds := ps.map .int) (n_rd rfl rfl) (n_at (ep_dget (ki := L) (os := L.map fun c => .d (.int (ow c : Nat))) (j := k) ep_var (it_o rfl) rfl (n_rd rfl rfl) hH.nd hk) (it_o rfl) hget rfl) (atI_nat (by rw [List.getElem?_map, hnm p hp0]; rfl))
    case oseq =>
      rw [hos2]
      congr 1
      rw [List.map_map]
      refine List.map_congr_left fun p hp => ?_
      have hp := rngI_mem.mp hp
      have h1 := hnm p (by omega)
      show PyData.int (nmA _ p) = PyData.int (ps.getD (ow p) 0)
      rw [← hos2, List.getD_eq_getElem?_getD, h1]
      rfl
    case nol =>
      show noLs (os.map .int) = true
      exact noL_ints
    case len =>
      rintro os' Γ' ⟨os1, e1, os2, e2, o, e3, e4⟩
      subst e1 e2 e3
      exact Nat.le_of_ble_eq_true rfl
    case post =>
      rintro o Γ' ⟨os', e0, os1, e1, os2, e2, o', e3, e4, _⟩
      subst e0 e1 e2 e3 e4
      have hne2 : NumEq n ps ts par ow := ⟨hch.e0, fun c hc => hch.eu c (hH.mem.mpr (by omega)) (by omega)⟩
      refine ⟨L, par, ow, hH, hne2, by rw [← hos]; exact hOwn, by rw [← hos]; exact hcost, ?_⟩
      unfold leastO
      rw [← hos]
end
end Pw

/-! ## K41_law_hung -/
namespace Pw
open PySem L2 Evl
def lhD (ts : List Tie) (par : Int → Int) (c : Int) : PyData := .tuple [.int c, parD par c, .int (if c = 0 then 0 else wUp ts par c)]
def lhO (ts : List Tie) (L : List Int) (par : Int → Int) : OD := .c .lst ((L.map (lhD ts par)).map .d)
def fLHung (os : List OD) (post : OD → Prop) : Prop := ∃ (n : Int) (ts : List Tie), os = [.d (webD n ts)] ∧ TreeW n ts ∧ n ≤ 60 ∧ post = fun r => ∃ L par, Hung n ts L par ∧ r = lhO ts L par
theorem lh_more {n : Int} {ts : List Tie} (T : TreeW n ts) {L : List Int} {par : Int → Int} {x y : Int} (hy : y ∉ L) (h0 : y ≠ 0) {t : Tie} (ht : t ∈ ts) (e : t.1 = x ∧ t.2.1 = y ∨ t.1 = y ∧ t.2.1 = x) : L.map (lhD ts par) ++ [.tuple [.int y, .int x, .int t.2.2]] = (L ++ [y]).map (lhD ts (parW par y x)) := by
  rw [List.map_append]
  congr 1
  · refine List.map_congr_left fun c hc => ?_
    have hcy : c ≠ y := fun z => hy (z ▸ hc)
    unfold lhD wUp parD parW
    rw [if_neg hcy]
  · have hw : wUp ts (parW par y x) y = t.2.2 := wUp_at T ht (by unfold parW; rw [if_pos rfl]; exact e)
    show _ = [lhD ts (parW par y x) y]
    unfold lhD
    rw [if_neg h0, hw]
    unfold parD parW
    rw [if_neg h0, if_pos rfl]

section
variable {P : Program} {w : World} {K : PySem.W.Frag} {mg : Str → Option Value} {base : Heap}
theorem sc_law_hung : FnScope nm_law_hung ps_law_hung (defScope s_law_hung) := ⟨rfl, rfl, rfl, by decide +kernel, rfl, by decide +kernel, by decide +kernel⟩
theorem ok_law_hung {f : Addr} {fd : FuncData} (T : Txt mg) (Ds : Defs K mg) (D : Dfn K mg "_law_hung" s_law_hung ps_law_hung f fd) : FnOk P w K mg base CX0 1 f fd ps_law_hung (spT K fLHung) := by
  refine D.F.ok sc_law_hung (fun vs H Q E h => ?_) (fun cdv A outer s H vs Q E hr h => ?_)
  · obtain ⟨S, B, os, post, w, hd, ⟨n, ts, rfl, _⟩, _⟩ := h
    exact TqAll.length hd
  · obtain ⟨S, B, os, post, w, hd, ⟨n, ts, rfl, hT, hn, rfl⟩, q⟩ := h
    obtain ⟨v1, rfl, h1⟩ := tq1 hd
    replace h1 := h1.dq
    refine ⟨_, (pss_cons (ps_set (i := 1) sc_law_hung.nd rfl (Or.inl rfl) (pe_lst (pa_cons (pe_tup (pa_cons pe_int (pa_cons pe_non (pa_cons pe_int pa_nil)))) pa_nil)))
      (pss_cons (ps_set (i := 2) sc_law_hung.nd rfl (Or.inl rfl) (pe_lst (pa_cons pe_int pa_nil)))
      (pss_cons (ps_while PassesOwn.never (pt_cmpR op_lt (pe_callB call_len_seq (by rfl) T.m_len (by decide +kernel) (pa_cons (pv 1) pa_nil)) (pe_ix ix_tup (pv 0) pe_int (fun _ _ => rfl)) (nomark _))
        (pss_one (ps_for PassesOwn.never rfl (pi_tup (pe_ix ix_tup (pv 0) pe_int (fun _ _ => rfl))) (pg_tup (by rfl) (pgs_cons (pg_name (i := 3) sc_law_hung.nd rfl (Or.inl rfl)) (pgs_cons (pg_name (i := 4) sc_law_hung.nd rfl (Or.inl rfl)) (pgs_cons (pg_name (i := 5) sc_law_hung.nd rfl (Or.inl rfl)) pgs_nil))))
          (pss_one (ps_if (pt_cmpR op_ne (pe_cmpR op_in_seq (pv 3) (pv 2) (by rfl)) (pe_cmpR op_in_seq (pv 4) (pv 2) (by rfl)) (nomark _))
            (pss_cons (ps_asg (pe_ifExp (pt_cmpR op_in_seq (pv 3) (pv 2) (by rfl)) (pe_tup (pa_cons (pv 3) (pa_cons (pv 4) pa_nil))) (pe_tup (pa_cons (pv 4) (pa_cons (pv 3) pa_nil)))) (pg_tup (by rfl) (pgs_cons (pg_name (i := 6) sc_law_hung.nd rfl (Or.inl rfl)) (pgs_cons (pg_name (i := 7) sc_law_hung.nd rfl (Or.inl rfl)) pgs_nil))))
            (pss_cons (ps_expr (pe_bm PySem.F.plainAttrs_list PySem.F.slot_list_append PySem.F.type_list_append mt_append (pv 1) (pa_cons (pe_tup (pa_cons (pv 7) (pa_cons (pv 6) (pa_cons (pv 5) pa_nil)))) pa_nil)))
            (pss_one (ps_expr (pe_bm PySem.F.plainAttrs_list PySem.F.slot_list_append PySem.F.type_list_append mt_append (pv 2) (pa_cons (pv 7) pa_nil))))))
            pss_nil)))))
      (pss_one (ps_ret (pv 1)))))), ?_⟩
    refine fn_T w (sl_some (s := .d _) h1 (sl_none (sl_none (sl_none (sl_none (sl_none (sl_none (sl_none sl_nil)))))))) rfl ?_ q
    have hin := hT.web.ins
    have htl := hT.web.len
    have hpos := hT.web.pos
    refine s_seq (s_new (na_cons (n_tup (na_cons n_int (na_cons n_non (na_cons n_int na_nil))) (Nat.le_of_ble_eq_true rfl)) na_nil) (Nat.le_of_ble_eq_true rfl) ?_)
    refine s_seq (s_new (na_cons n_int na_nil) (Nat.le_of_ble_eq_true rfl) ?_)
    refine s_seq (s_while (W := fun m Γ' => ∃ (L : List Int) (par : Int → Int) (x3 x4 x5 x6 x7 : Option Sl), m = n.toNat - L.length ∧ Γ' = [some (.d (webD n ts)), some (.o .lst (L.map (lhD ts par))), some (.o .lst (L.map .int)), x3, x4, x5, x6, x7] ∧ HungI n ts L par) ⟨n.toNat - 1, [0], fun _ => 0, none, none, none, none, none, rfl, rfl, ⟨List.nodup_cons.mpr ⟨List.not_mem_nil, List.nodup_nil⟩, fun x hx => by rw [List.mem_singleton.mp hx]; omega, rfl, fun i c h => by simp at h⟩⟩ fun m Γ' hW' => ?_)
    obtain ⟨L, par, x3, x4, x5, x6, x7, rfl, rfl, hL⟩ := hW'
    have hLl := hL.few
    refine ⟨_, nb_test (n_cmp (n_len (t := false) (ds := L.map (lhD ts par)) (n_o rfl)) (n_ixT (d := .int n) (n_rd rfl rfl) n_int rfl)), fun hb => ?_, fun hb => ?_⟩
    · have hb1 : L.length < n.toNat := by
        have := of_decide_eq_true hb
        rw [List.length_map] at this
        omega
      refine s_for ts tieD (nw_tup (n_ixT (d := .tuple (ts.map tieD)) (n_rd rfl rfl) n_int rfl)) (fun j Γ' => ∃ (L' : List Int) (par' : Int → Int) (x3 x4 x5 x6 x7 : Option Sl), Γ' = [some (.d (webD n ts)), some (.o .lst (L'.map (lhD ts par'))), some (.o .lst (L'.map .int)), x3, x4, x5, x6, x7] ∧ HungI n ts L' par' ∧ L.length ≤ L'.length ∧ (L'.length = L.length → L' = L ∧ ∀ t ∈ ts.take j, (t.1 ∈ L ↔ t.2.1 ∈ L))) ⟨L, par, x3, x4, x5, x6, x7, rfl, hL, Nat.le_refl _, fun _ => ⟨rfl, fun t ht => by rw [List.take_zero] at ht; cases ht⟩⟩ (fun j t Γ' ht hI => ⟨_, gt_tup rfl (gts_cons gt_1 (gts_cons gt_1 (gts_cons gt_1 gts_nil))), ?_⟩) (fun Γ' hI => ?_)
      · obtain ⟨L', par', x3, x4, x5, x6, x7, rfl, hL', hlen, hd⟩ := hI
        have htm := List.mem_of_getElem? ht
        have hr := hT.web.tie t htm
        have hll := hL'.few
        refine s_if (b := decide (t.1 ∈ L') != decide (t.2.1 ∈ L')) (nb_test (n_neB (n_in (neg := false) (t := false) (ns := L') (n_rd rfl rfl) (n_o rfl)) (n_in (neg := false) (t := false) (ns := L') (n_rd rfl rfl) (n_o rfl)))) (fun h4 => ?_) (fun h4 => s_next ?_)
        · obtain ⟨x, y, hxy, hx, hy, hx2⟩ : ∃ x y, (t.1 = x ∧ t.2.1 = y ∨ t.1 = y ∧ t.2.1 = x) ∧ x ∈ L' ∧ y ∉ L' ∧ (t.1 = x ↔ t.1 ∈ L') := by
            by_cases z : t.1 ∈ L'
            · refine ⟨t.1, t.2.1, .inl ⟨rfl, rfl⟩, z, fun y => ?_, ⟨fun _ => z, fun _ => rfl⟩⟩
              rw [decide_eq_true z, decide_eq_true y] at h4
              cases h4
            · refine ⟨t.2.1, t.1, .inr ⟨rfl, rfl⟩, Classical.byContradiction fun y => ?_, z, ⟨fun y => by omega, fun y => absurd y z⟩⟩
              rw [decide_eq_false z, decide_eq_false y] at h4
              cases h4
          have h0 : y ≠ 0 := fun z => hy (z ▸ List.mem_of_getElem? hL'.fst)
          obtain ⟨k, hk⟩ := List.getElem?_of_mem hx
          have hmore := hL'.more hk hy (by omega) ⟨t, htm, hxy⟩
          refine s_seq (s_asgTE (d := .tuple [.int x, .int y]) (ed_a (n_is (n_ite (b := decide (t.1 ∈ L')) (nb_test (n_in (neg := false) (t := false) (ns := L') (n_rd rfl rfl) (n_o rfl))) (fun z1 => (n_tup (na_cons (n_rd rfl rfl) (na_cons (n_rd rfl rfl) na_nil)) (Nat.le_of_ble_eq_true rfl))) (fun z1 => (n_tup (na_cons (n_rd rfl rfl) (na_cons (n_rd rfl rfl) na_nil)) (Nat.le_of_ble_eq_true rfl)))) ?ife) rfl) (gt_tup rfl (gts_cons gt_1 (gts_cons gt_1 gts_nil))) ?_)
          case ife =>
            by_cases z : t.1 ∈ L'
            · have e1 := hx2.mpr z
              have e2 : t.2.1 = y := by omega
              rw [decide_eq_true z, e1, e2]
              rfl
            · have e1 : t.1 = y := by
                rcases hxy with e | e
                · exact absurd (e.1 ▸ hx) z
                · exact e.1
              have e2 : t.2.1 = x := by
                rcases hxy with e | e
                · exact absurd (e.1 ▸ hx) z
                · exact e.2
              rw [decide_eq_false z, e1, e2]
              rfl
          refine s_seq (s_appA (ds := L'.map (lhD ts par')) (d := .tuple [.int y, .int x, .int t.2.2]) rfl (by rw [List.length_map]; omega) (n_tup (na_cons (n_rd rfl rfl) (na_cons (n_rd rfl rfl) (na_cons (n_rd rfl rfl) na_nil))) (Nat.le_of_ble_eq_true rfl)) rfl ?_)
          refine s_appA (ds := L'.map .int) (d := .int y) rfl (by rw [List.length_map]; omega) (n_rd rfl rfl) rfl ⟨L' ++ [y], parW par' y x, some (.d (.int t.1)), some (.d (.int t.2.1)), some (.d (.int t.2.2)), some (.d (.int x)), some (.d (.int y)), ?_, hmore, by rw [List.length_append]; omega, fun z => by rw [List.length_append] at z; simp at z; omega⟩
          rw [← lh_more hT hy h0 htm hxy, show (L' ++ [y]).map PyData.int = L'.map .int ++ [.int y] from List.map_append]
          rfl
        · refine ⟨L', par', some (.d (.int t.1)), some (.d (.int t.2.1)), some (.d (.int t.2.2)), x6, x7, rfl, hL', hlen, fun z => ?_⟩
          obtain ⟨e, h⟩ := hd z
          refine ⟨e, fun u hu => ?_⟩
          rw [List.take_add_one, ht] at hu
          rcases List.mem_append.mp hu with hu | hu
          · exact h u hu
          · have : u = t := by simpa using hu
            subst this
            rw [e] at h4
            by_cases a : u.1 ∈ L
            · by_cases b : u.2.1 ∈ L
              · exact ⟨fun _ => b, fun _ => a⟩
              · rw [decide_eq_true a, decide_eq_false b] at h4
                cases h4
            · by_cases b : u.2.1 ∈ L
              · rw [decide_eq_false a, decide_eq_true b] at h4
                cases h4
              · exact ⟨fun z => absurd z a, fun z => absurd z b⟩
      · obtain ⟨L', par', x3, x4, x5, x6, x7, rfl, hL', hlen, hd⟩ := hI
        rw [List.take_length] at hd
        have hll := hL'.few
        refine ⟨n.toNat - L'.length, ?_, L', par', x3, x4, x5, x6, x7, rfl, rfl, hL'⟩
        by_cases z : L'.length = L.length
        · exfalso
          obtain ⟨_, h⟩ := hd z
          have hall : ∀ z, 0 ≤ z ∧ z < n → z ∈ L := fun z hz => by
            have c := hT.con 0 z (by omega) hz
            clear hz
            induction c with
            | refl => exact List.mem_of_getElem? hL.fst
            | @tail b c _ ad ih =>
              obtain ⟨t, ht, e⟩ := ad
              have := h t ht
              rcases e with ⟨e1, e2⟩ | ⟨e1, e2⟩
              · rw [e1, e2] at this
                exact this.mp ih
              · rw [e1, e2] at this
                exact this.mpr ih
          have := (List.perm_ext_iff_of_nodup hL.nd (rngI_nd 0 n.toNat)).mpr fun z => ⟨fun hz => rngI_mem.mpr (by have := hL.rng z hz; omega), fun hz => hall z (by have := rngI_mem.mp hz; omega)⟩
          have := this.length_eq
          rw [rngI_len] at this
          omega
        · omega
    · have hb1 : L.length = n.toNat := by
        have := of_decide_eq_false hb
        rw [List.length_map] at this
        omega
      have hall : ∀ z, 0 ≤ z ∧ z < n → z ∈ L := fun z hz => Classical.byContradiction fun hm => by
        have := few_in (n := n.toNat) (ks := z :: L) (List.nodup_cons.mpr ⟨hm, hL.nd⟩) fun k hk => by
          rcases List.mem_cons.mp hk with rfl | hk
          · omega
          · have := hL.rng k hk
            omega
        rw [List.length_cons] at this
        omega
      have hp : L.Perm (rngI 0 n.toNat) := (List.perm_ext_iff_of_nodup hL.nd (rngI_nd _ _)).mpr fun z => ⟨fun hz => rngI_mem.mpr (by have := hL.rng z hz; omega), fun hz => hall z (by have := rngI_mem.mp hz; omega)⟩
      exact s_retT (xf_varO rfl).x fun o Γ' ⟨e, _⟩ => ⟨L, par, ⟨hp, hL.fst, hL.up⟩, e⟩
end
end Pw

/-! ## K41_law_within -/
namespace Pw
open PySem L2 Evl
/-- a place and all behind it, as far as one has gone -/
def stepW (par : Int → Int) (W : List Int) (c : Int) : List Int := if c ≠ 0 ∧ par c ∈ W then W ++ [c] else W
def wthn (par : Int → Int) (L : List Int) (p : Int) : List Int := L.foldl (stepW par) [p]
def tiesW (ts : List Tie) (W : List Int) : List Tie := ts.filter fun t => decide (t.1 ∈ W) && decide (t.2.1 ∈ W)
def withinD (ts : List Tie) (W : List Int) : PyData := .tuple [.list (W.map .int), .list ((tiesW ts W).map tieD)]
def fWithin (os : List OD) (post : OD → Prop) : Prop := ∃ (n : Int) (ts : List Tie) (p : Int), os = [.d (webD n ts), .d (.int p)] ∧ TreeW n ts ∧ n ≤ 60 ∧ (0 ≤ p ∧ p < n) ∧ post = fun r => ∃ L par, Hung n ts L par ∧ r = .d (withinD ts (wthn par L p))
structure WIn (par : Int → Int) (L : List Int) (p : Int) (i0 i : Nat) (W : List Int) : Prop where
  nd : W.Nodup
  hd : W[0]? = some p
  mem : ∀ c ∈ W, c = p ∨ ∃ j, i0 < j ∧ j < i ∧ L[j]? = some c
  up : ∀ c ∈ W, c ≠ p → c ≠ 0 ∧ par c ∈ W
  cl : ∀ (j : Nat) (c : Int), j < i → L[j]? = some c → c ≠ 0 → par c ∈ W → c ∈ W
theorem wIn_step {n : Int} {ts : List Tie} {L : List Int} {par : Int → Int} (h : Hung n ts L par) {p c : Int} {i0 i : Nat} (hp : L[i0]? = some p) (hc : L[i]? = some c) {W : List Int} (I : WIn par L p i0 i W) : WIn par L p i0 (i + 1) (stepW par W c) := by
  have habove : ∀ (j : Nat) (x : Int), L[j]? = some x → x ≠ 0 → ∃ k, k < j ∧ L[k]? = some (par x) := fun j x hx h0 => by
    cases j with
    | zero =>
      rw [h.fst] at hx
      exact absurd (Option.some.inj hx).symm h0
    | succ j =>
      obtain ⟨k, hk, hkp⟩ := h.above j x hx
      exact ⟨k, by omega, hkp⟩
  have hat : ∀ x ∈ W, ∃ j, L[j]? = some x ∧ (j = i0 ∨ (i0 < j ∧ j < i)) := fun x hx => by
    rcases I.mem x hx with rfl | ⟨j, h1, h2, h3⟩
    · exact ⟨i0, hp, .inl rfl⟩
    · exact ⟨j, h3, .inr ⟨h1, h2⟩⟩
  unfold stepW
  by_cases z : c ≠ 0 ∧ par c ∈ W
  · rw [if_pos z]
    obtain ⟨h0, hm⟩ := z
    obtain ⟨k, hk, hkp⟩ := habove i c hc h0
    obtain ⟨j, hj, hj2⟩ := hat _ hm
    have hjk := nd_at h.nd hj hkp
    have hi0 : i0 < i := by omega
    have hnew : c ∉ W := fun y => by
      obtain ⟨m, hm1, hm2⟩ := hat c y
      have := nd_at h.nd hm1 hc
      omega
    refine ⟨List.nodup_append.mpr ⟨I.nd, List.nodup_cons.mpr ⟨List.not_mem_nil, List.nodup_nil⟩, fun a ha b hb e => by
      rw [List.mem_singleton.mp hb] at e
      exact hnew (e ▸ ha)⟩, ?_, fun x hx => ?_, fun x hx hxp => ?_, fun m x hm1 hx hx0 hpx => ?_⟩
    · rw [List.getElem?_append_left (List.getElem?_eq_some_iff.mp I.hd).1]
      exact I.hd
    · rcases List.mem_append.mp hx with hx | hx
      · rcases I.mem x hx with e | ⟨j, h1, h2, h3⟩
        · exact .inl e
        · exact .inr ⟨j, h1, by omega, h3⟩
      · rw [List.mem_singleton.mp hx]
        exact .inr ⟨i, hi0, by omega, hc⟩
    · rcases List.mem_append.mp hx with hx | hx
      · obtain ⟨h1, h2⟩ := I.up x hx hxp
        exact ⟨h1, List.mem_append_left _ h2⟩
      · rw [List.mem_singleton.mp hx]
        exact ⟨h0, List.mem_append_left _ hm⟩
    · by_cases e : m = i
      · subst e
        rw [hc] at hx
        rw [Option.some.inj hx]
        exact List.mem_append_right _ (List.mem_singleton.mpr rfl)
      · refine List.mem_append_left _ (I.cl m x (by omega) hx hx0 ?_)
        rcases List.mem_append.mp hpx with hpx | hpx
        · exact hpx
        · exfalso
          rw [List.mem_singleton] at hpx
          obtain ⟨k2, hk2, hkp2⟩ := habove m x hx hx0
          rw [hpx] at hkp2
          have := nd_at h.nd hkp2 hc
          omega
  · rw [if_neg z]
    refine ⟨I.nd, I.hd, fun x hx => ?_, I.up, fun m x hm1 hx hx0 hpx => ?_⟩
    · rcases I.mem x hx with e | ⟨j, h1, h2, h3⟩
      · exact .inl e
      · exact .inr ⟨j, h1, by omega, h3⟩
    · by_cases e : m = i
      · subst e
        rw [hc] at hx
        rw [← Option.some.inj hx] at hx0 hpx
        exact absurd ⟨hx0, hpx⟩ z
      · exact I.cl m x (by omega) hx hx0 hpx
theorem wIn_all {n : Int} {ts : List Tie} {L : List Int} {par : Int → Int} (h : Hung n ts L par) {p : Int} {i0 : Nat} (hp : L[i0]? = some p) : ∀ i, i ≤ L.length → WIn par L p i0 i ((L.take i).foldl (stepW par) [p])
  | 0, _ => ⟨List.nodup_cons.mpr ⟨List.not_mem_nil, List.nodup_nil⟩, rfl, fun c hc => .inl (List.mem_singleton.mp hc), fun c hc hcp => absurd (List.mem_singleton.mp hc) hcp, fun j c hj => absurd hj (Nat.not_lt_zero j)⟩
  | i + 1, hi => by
    obtain ⟨c, hc⟩ : ∃ c, L[i]? = some c := ⟨_, List.getElem?_eq_getElem hi⟩
    have := wIn_step h hp hc (wIn_all h hp i (by omega))
    rw [List.take_add_one, hc, List.foldl_append]
    exact this
/-- a place and all behind it -/
structure Below (n : Int) (par : Int → Int) (p : Int) (W : List Int) : Prop where
  nd : W.Nodup
  hd : W[0]? = some p
  rng : ∀ c ∈ W, 0 ≤ c ∧ c < n
  up : ∀ c ∈ W, c ≠ p → (0 < c ∧ c < n) ∧ par c ∈ W
  cl : ∀ c, 0 < c ∧ c < n → par c ∈ W → c ∈ W
  top : 0 < p → par p ∉ W
theorem wthn_ok {n : Int} {ts : List Tie} {L : List Int} {par : Int → Int} (h : Hung n ts L par) {p : Int} (hp : 0 ≤ p ∧ p < n) : Below n par p (wthn par L p) := by
  obtain ⟨i0, h0⟩ := List.getElem?_of_mem (h.mem.mpr hp)
  have I := wIn_all h h0 L.length (Nat.le_refl _)
  rw [List.take_length] at I
  have hr : ∀ c ∈ wthn par L p, 0 ≤ c ∧ c < n := fun c hc => by
    rcases I.mem c hc with rfl | ⟨j, _, _, h3⟩
    · exact hp
    · exact h.mem.mp (List.mem_of_getElem? h3)
  refine ⟨I.nd, I.hd, hr, fun c hc hcp => ?_, fun c hc hpc => ?_, fun hp0 hm => ?_⟩
  · obtain ⟨h1, h2⟩ := I.up c hc hcp
    have := hr c hc
    exact ⟨by omega, h2⟩
  · obtain ⟨j, hj⟩ := h.idx hc
    exact I.cl (j + 1) c (List.getElem?_eq_some_iff.mp hj).1 hj (by omega) hpc
  · obtain ⟨j, hj⟩ := h.idx ⟨hp0, hp.2⟩
    obtain ⟨k, hk, hkp⟩ := h.above j p hj
    have e0 := nd_at h.nd hj h0
    rcases I.mem _ hm with e | ⟨m, h1, _, h3⟩
    · rw [e] at hkp
      have := nd_at h.nd hkp h0
      omega
    · have := nd_at h.nd h3 hkp
      omega
theorem any_ints (W : List Int) (x : Int) : ((W.map PyData.int).any fun z => PyData.eqv z (.int x)) = decide (x ∈ W) := by
  induction W with
  | nil => rfl
  | cons w W ih =>
    rw [List.map_cons, List.any_cons, ih]
    have : PyData.eqv (.int w) (.int x) = decide (w = x) := by
      unfold PyData.eqv
      rw [Bool.eq_iff_iff]
      simp
    rw [this, Bool.eq_iff_iff]
    simp only [Bool.or_eq_true, decide_eq_true_iff, List.mem_cons]
    exact ⟨fun h => h.elim (fun e => .inl e.symm) .inr, fun h => h.elim (fun e => .inl e.symm) .inr⟩
theorem any_non (W : List Int) : ((W.map PyData.int).any fun z => PyData.eqv z .none) = false := by
  induction W with
  | nil => rfl
  | cons w W ih =>
    rw [List.map_cons, List.any_cons, ih]
    rfl

section
variable {P : Program} {w : World} {K : PySem.W.Frag} {mg : Str → Option Value} {base : Heap}
theorem sc_law_within : FnScope nm_law_within ps_law_within (defScope s_law_within) := ⟨rfl, rfl, rfl, by decide +kernel, rfl, by decide +kernel, by decide +kernel⟩
theorem ok_law_within {f : Addr} {fd : FuncData} (T : Txt mg) (Ds : Defs K mg) (D : Dfn K mg "_law_within" s_law_within ps_law_within f fd) : FnOk P w K mg base CX0 2 f fd ps_law_within (spT K fWithin) := by
  obtain ⟨f_law_hung, fd_law_hung, D_law_hung⟩ := Ds.d_law_hung
  have G_law_hung := ok_law_hung (P := P) (w := w) (base := base) T Ds D_law_hung
  refine D.F.ok sc_law_within (fun vs H Q E h => ?_) (fun cdv A outer s H vs Q E hr h => ?_)
  · obtain ⟨S, B, os, post, w, hd, ⟨n, ts, p, rfl, _⟩, _⟩ := h
    exact TqAll.length hd
  · obtain ⟨S, B, os, post, w, hd, ⟨n, ts, p, rfl, hT, hn, hp, rfl⟩, q⟩ := h
    have hr_law_hung := hr.mono (show 1 ≤ 1 by decide)
    obtain ⟨v1, v2, rfl, h1, h2⟩ := tq2 hd
    replace h1 := h1.dq
    replace h2 := h2.dq
    refine ⟨_, (pss_cons (ps_set (i := 2) sc_law_within.nd rfl (Or.inr rfl) (pe_lst (pa_cons (pv 1) pa_nil)))
      (pss_cons (ps_for PassesOwn.never rfl (pi_list (pe_call G_law_hung hr_law_hung (by rfl) D_law_hung.g D_law_hung.F.kp D_law_hung.b .nil pass0 (pa_cons (pv 0) pa_nil))) (pg_tup (by rfl) (pgs_cons (pg_name (i := 3) sc_law_within.nd rfl (Or.inl rfl)) (pgs_cons (pg_name (i := 4) sc_law_within.nd rfl (Or.inl rfl)) (pgs_cons (pg_name (i := 5) sc_law_within.nd rfl (Or.inl rfl)) pgs_nil))))
        (pss_one (ps_if (PW.pt (pw_and (pt_cmpR (op_inD hr.units65) (pv 4) (pv 2) (by rfl)) (pw_and1 (pt_cmpR op_notN (pv 4) pe_non (nomark _)))))
          (pss_one (ps_expr (pe_bm PySem.F.plainAttrs_list PySem.F.slot_list_append PySem.F.type_list_append mt_append (pv 2) (pa_cons (pv 3) pa_nil))))
          pss_nil)))
      (pss_one (ps_ret (pe_tup (pa_cons (pv 2) (pa_cons (pe_lc (own := [("_law_tie", 6)]) (g := (gName 6)) (by rfl) sc_law_within.nd (pi_tup (pe_ix ix_tup (pv 0) pe_int (fun _ _ => rfl))) (blkOk_by (own := [("_law_tie", 6)]) (N := nm_law_within) (sc := defScope s_law_within) (by decide +kernel)) (fun _ _ _ _ _ => (pg_name (i := 6) sc_law_within.nd rfl (Or.inl rfl))) (fun _ _ _ _ _ => (pts_one (PW.pt (pw_and (pt_cmpR (r := rInD K) (op_inD hr.units65) (pe_ix (r := rIxT K) ix_tup (pv 6) pe_int (fun _ _ => rfl)) (pv 2) (by rfl)) (pw_and1 (pt_cmpR (r := rInD K) (op_inD hr.units65) (pe_ix (r := rIxT K) ix_tup (pv 6) pe_int (fun _ _ => rfl)) (pv 2) (by rfl))))))) (fun _ _ _ _ _ => (pv 6))) pa_nil))))))), ?_⟩
    refine fn_T w (sl_some (s := .d _) h1 (sl_some (s := .d _) h2 (sl_none (sl_none (sl_none (sl_none (sl_none sl_nil))))))) rfl ?_ q
    have hpos := hT.web.pos
    have htl := hT.web.len
    have hin := hT.web.ins
    refine s_seq (s_new (na_cons (n_rd rfl rfl) na_nil) (Nat.le_of_ble_eq_true rfl) ?_)
    refine s_seq (s_forX (α := Int) (G := fun te => iList K te) (fun _ _ _ h => h) (R := fun d Γ' => ∃ L par, Hung n ts L par ∧ d = .list (L.map (lhD ts par)) ∧ Γ' = [some (.d (webD n ts)), some (.d (.int p)), some (.o .lst ([p].map .int)), none, none, none, none]) (x_give (xf_call (post := fun r => ∃ L par, Hung n ts L par ∧ r = lhO ts L par) (et_cons (et_d (n_rd rfl rfl)) et_nil) ⟨n, ts, rfl, hT, hn, rfl⟩) rfl fun o Γ' ⟨⟨L, par, hH, e1⟩, e2⟩ => ⟨.list (L.map (lhD ts par)), by rw [e1]; unfold lhO OD.asD; rw [asDs_d]; rfl, L, par, hH, rfl, e2⟩) fun d Γ' ⟨L, par, hH, e1, e2⟩ => ?_)
    subst e1 e2
    obtain ⟨i0, hi0⟩ := List.getElem?_of_mem (hH.mem.mpr hp)
    have hLl := hH.len
    refine ⟨L, lhD ts par, fun i Γ' => ∃ x3 x4 x5 : Option Sl, i ≤ L.length ∧ Γ' = [some (.d (webD n ts)), some (.d (.int p)), some (.o .lst (((L.take i).foldl (stepW par) [p]).map .int)), x3, x4, x5, none], fun σ B v hv => wk_list (ev_c hv), ⟨none, none, none, Nat.zero_le _, rfl⟩, fun i c Γ' hc hI => ?_, fun Γ' hI => ?_⟩
    · obtain ⟨x3, x4, x5, hil, rfl⟩ := hI
      have hil := (List.getElem?_eq_some_iff.mp hc).1
      have I := wIn_all hH hi0 i (by omega)
      obtain ⟨W, hW⟩ : ∃ W, W = (L.take i).foldl (stepW par) [p] := ⟨_, rfl⟩
      rw [← hW] at I ⊢
      have hWl : W.length ≤ 60 := by
        have := few_in (n := n.toNat) I.nd fun k hk => by
          rcases I.mem k hk with rfl | ⟨j, _, _, h3⟩
          · omega
          · have := hH.mem.mp (List.mem_of_getElem? h3)
            omega
        omega
      have hnext : (L.take (i + 1)).foldl (stepW par) [p] = stepW par W c := by
        rw [List.take_add_one, hc, List.foldl_append, ← hW]
        rfl
      refine ⟨_, gt_tup rfl (gts_cons gt_1 (gts_cons gt_1 (gts_cons gt_1 gts_nil))), ?_⟩
      have sW : SeqAt.shaped (.list (W.map .int)) = true := shaped_ints W
      by_cases h0 : c = 0
      · have e : parD par c = .none := by unfold parD; rw [if_pos h0]
        rw [e]
        refine s_if (b := false) (nb_is (b := false && true) (nb_and (nb_test (n_is (n_inD (d := .none) (ds := W.map .int) (n_rd rfl rfl) (n_o rfl) rfl sW) (by rw [any_non]))) fun h => by cases h) rfl) (fun h => by cases h) fun _ => s_next ⟨some (.d (.int c)), some (.d .none), some (.d (.int (if c = 0 then 0 else wUp ts par c))), by omega, ?_⟩
        rw [hnext, show stepW par W c = W from if_neg fun z => z.1 h0]
        rfl
      · have e : parD par c = .int (par c) := by unfold parD; rw [if_neg h0]
        rw [e]
        refine s_if (b := decide (par c ∈ W)) (nb_is (b := decide (par c ∈ W) && true) (nb_and (nb_test (n_is (n_inD (d := .int (par c)) (ds := W.map .int) (n_rd rfl rfl) (n_o rfl) rfl sW) (by rw [any_ints]))) fun _ => nb_test (n_notN (d := .int (par c)) (n_rd rfl rfl) rfl)) (Bool.and_true _)) (fun h => ?_) fun h => s_next ⟨some (.d (.int c)), some (.d (.int (par c))), some (.d (.int (if c = 0 then 0 else wUp ts par c))), by omega, ?_⟩
        · have h := of_decide_eq_true h
          refine s_appA (ds := W.map .int) (d := .int c) rfl (by rw [List.length_map]; omega) (n_rd rfl rfl) rfl ⟨some (.d (.int c)), some (.d (.int (par c))), some (.d (.int (if c = 0 then 0 else wUp ts par c))), by omega, ?_⟩
          rw [hnext, show stepW par W c = W ++ [c] from if_pos ⟨h0, h⟩, List.map_append]
          rfl
        · have h := of_decide_eq_false h
          rw [hnext, show stepW par W c = W from if_neg fun z => h z.2]
          rfl
    · obtain ⟨x3, x4, x5, hil, rfl⟩ := hI
      rw [List.take_length]
      have hWo := wthn_ok hH hp
      obtain ⟨W, hW⟩ : ∃ W, W = wthn par L p := ⟨_, rfl⟩
      rw [← hW] at hWo
      rw [show L.foldl (stepW par) [p] = W from hW.symm]
      have sW : SeqAt.shaped (.list (W.map .int)) = true := shaped_ints W
      refine s_give (i := 2) rfl ?_
      refine s_retT (xf_ft (o := .d (withinD ts W)) (ft_d (n_tup (na_cons (n_rd rfl rfl) (na_cons (n_lc ts tieD (fun t => decide (t.1 ∈ W) && decide (t.2.1 ∈ W)) tieD (nw_tup (n_ixT (d := .tuple (ts.map tieD)) (n_rd rfl rfl) n_int rfl)) (by omega) fun t ht => nt (gn_1 (by decide)) (nb_and (b := decide (t.1 ∈ W)) (nb_test (n_is (n_inD (d := .int t.1) (ds := W.map .int) (n_ixT (d := .int t.1) (n_rd (d := tieD t) rfl rfl) n_int rfl) (n_rd rfl rfl) rfl sW) (by rw [any_ints]))) fun _ => nb_test (n_is (n_inD (d := .int t.2.1) (ds := W.map .int) (n_ixT (d := .int t.2.1) (n_rd (d := tieD t) rfl rfl) n_int rfl) (n_rd rfl rfl) rfl sW) (by rw [any_ints]))) fun _ => n_rd rfl rfl) na_nil)) (Nat.le_of_ble_eq_true rfl)))).x fun o Γ' ⟨e, _⟩ => ⟨L, par, hH, by rw [e, hW]⟩
end
end Pw

/-! ## K41_law_least_of -/
namespace Pw
open PySem L2 Evl
def candW (ps : List Int) (p : Int) : List Int := if p ∈ ps then [p] else ps
/-- the rows of owners of a place and what is behind it, the first one's owner given -/
def rowsS (ps W : List Int) (x : Int) : Nat → List (List Int)
  | 0 => [[x]]
  | i + 1 => (rowsS ps W x i).flatMap fun r => (candW ps (W.getD (i + 1) 0)).map fun o => r ++ [o]
/-- whose a place is -/
def nmS (W r : List Int) (p : Int) : Int := r.getD (W.idxOf p) 0
def costS (ts : List Tie) (W r : List Int) : Int := ((tiesW ts W).map fun t => if nmS W r t.1 = nmS W r t.2.1 then 0 else t.2.2).sum
def leastS (ts : List Tie) (ps W : List Int) (x : Int) : Int := leastL ((rowsS ps W x (W.length - 1)).map (costS ts W))
def rowOD (W : List Int) (i : Nat) (r : List Int) : OD := .c (.dK (kI (W.take (i + 1)))) ((r.map PyData.int).map .d)
def fLLeast (ds : List PyData) (d : PyData) : Prop := ∃ (ts : List Tie) (ps W : List Int) (x : Int), ds = [.list (W.map .int), .list ((tiesW ts W).map tieD), .list (ps.map .int), .int x] ∧ (W.Nodup ∧ W ≠ [] ∧ W.length ≤ 7) ∧ ts.length ≤ 100 ∧ (ps ≠ [] ∧ ps.length ≤ 4) ∧ d = .int (leastS ts ps W x)
theorem rowsS_mem {ps W : List Int} {x : Int} : ∀ {i : Nat} {r : List Int}, r ∈ rowsS ps W x i ↔ r.length = i + 1 ∧ r[0]? = some x ∧ ∀ (j : Nat) (o : Int), r[j + 1]? = some o → o ∈ candW ps (W.getD (j + 1) 0)
  | 0, r => by
    show r ∈ [[x]] ↔ _
    rw [List.mem_singleton]
    constructor
    · rintro rfl
      exact ⟨rfl, rfl, fun j o h => by simp at h⟩
    · rintro ⟨h1, h2, _⟩
      match r, h1, h2 with
      | [y], _, h2 =>
        simp only [List.getElem?_cons_zero, Option.some.injEq] at h2
        rw [h2]
  | i + 1, r => by
    show r ∈ (rowsS ps W x i).flatMap _ ↔ _
    rw [List.mem_flatMap]
    constructor
    · rintro ⟨q, hq, h⟩
      obtain ⟨o, ho, rfl⟩ := List.mem_map.mp h
      obtain ⟨h1, h2, h3⟩ := rowsS_mem.mp hq
      refine ⟨by rw [List.length_append, h1]; rfl, by rw [List.getElem?_append_left (by omega)]; exact h2, fun j y hy => ?_⟩
      by_cases hj : j + 1 < q.length
      · rw [List.getElem?_append_left hj] at hy
        exact h3 j y hy
      · have hil := (List.getElem?_eq_some_iff.mp hy).1
        rw [List.length_append, List.length_singleton] at hil
        have e : j + 1 = q.length := by omega
        rw [e, List.getElem?_concat_length] at hy
        cases hy
        have e2 : j + 1 = i + 1 := by omega
        rw [e2]
        exact ho
    · rintro ⟨h1, h2, h3⟩
      obtain ⟨q, o, rfl⟩ : ∃ q o, r = q ++ [o] := by
        have hne : r ≠ [] := fun z => by rw [z] at h1; cases h1
        exact ⟨r.dropLast, r.getLast hne, (List.dropLast_concat_getLast hne).symm⟩
      rw [List.length_append, List.length_singleton] at h1
      have h1 : q.length = i + 1 := by omega
      refine ⟨q, rowsS_mem.mpr ⟨h1, by rw [List.getElem?_append_left (by omega)] at h2; exact h2, fun j y hy => h3 j y ?_⟩, List.mem_map.mpr ⟨o, ?_, rfl⟩⟩
      · rw [List.getElem?_append_left (List.getElem?_eq_some_iff.mp hy).1]
        exact hy
      · exact h3 i o (by rw [← h1]; exact List.getElem?_concat_length)
theorem flat_lenS {α β : Type} (l : List α) (f : α → List β) (m : Nat) (h : ∀ a ∈ l, (f a).length ≤ m) : (l.flatMap f).length ≤ l.length * m := by
  induction l with
  | nil => rw [List.flatMap_nil, List.length_nil]; exact Nat.zero_le _
  | cons a l ih =>
    rw [List.flatMap_cons, List.length_append, List.length_cons, Nat.succ_mul]
    have h1 := h a List.mem_cons_self
    have h2 := ih fun b hb => h b (List.mem_cons_of_mem _ hb)
    omega
theorem candW_len {ps : List Int} {p : Int} (h : ps.length ≤ 4) : (candW ps p).length ≤ 4 := by
  unfold candW
  split
  · exact Nat.le_of_ble_eq_true rfl
  · exact h
theorem rowsS_few {ps W : List Int} {x : Int} (h : ps.length ≤ 4) : ∀ i, (rowsS ps W x i).length ≤ 4 ^ i
  | 0 => Nat.le_refl _
  | i + 1 => by
    have h1 := flat_lenS (rowsS ps W x i) (fun r => (candW ps (W.getD (i + 1) 0)).map fun o => r ++ [o]) 4 fun r _ => by
      rw [List.length_map]
      exact candW_len h
    have h2 := rowsS_few (W := W) (x := x) h i
    rw [Nat.pow_succ]
    exact Nat.le_trans h1 (Nat.mul_le_mul_right 4 h2)
theorem rowsS_4096 {ps W : List Int} {x : Int} (h : ps.length ≤ 4) {i : Nat} (hi : i ≤ 6) : (rowsS ps W x i).length ≤ 4096 := Nat.le_trans (rowsS_few h i) (Nat.pow_le_pow_right (by decide) hi)
theorem rowsS_ne {ps W : List Int} {x : Int} (h : ps ≠ []) : ∀ i, rowsS ps W x i ≠ []
  | 0 => List.cons_ne_nil _ _
  | i + 1 => fun z => by
    obtain ⟨r, hr⟩ := List.exists_mem_of_ne_nil _ (rowsS_ne (W := W) (x := x) h i)
    obtain ⟨o, ho⟩ : ∃ o, o ∈ candW ps (W.getD (i + 1) 0) := by
      unfold candW
      split
      · exact ⟨_, List.mem_singleton.mpr rfl⟩
      · exact List.exists_mem_of_ne_nil _ h
    have : r ++ [o] ∈ rowsS ps W x (i + 1) := List.mem_flatMap.mpr ⟨r, hr, List.mem_map.mpr ⟨o, ho, rfl⟩⟩
    rw [z] at this
    cases this
theorem flat_takeS {α β : Type} (f : α → List β) {l : List α} {i : Nat} {a : α} (h : l[i]? = some a) : (l.take (i + 1)).flatMap f = (l.take i).flatMap f ++ f a := by
  rw [List.take_add_one, h, List.flatMap_append]
  show _ ++ (f a ++ []) = _
  rw [List.append_nil]
theorem flat_leS {α β : Type} (f : α → List β) (l : List α) (i : Nat) : ((l.take i).flatMap f).length ≤ (l.flatMap f).length := by
  have : l.flatMap f = (l.take i).flatMap f ++ (l.drop i).flatMap f := by rw [← List.flatMap_append, List.take_append_drop]
  rw [this, List.length_append]
  omega
theorem costS_filt (ts : List Tie) (W r : List Int) : (((tiesW ts W).filter fun t => !decide (nmS W r t.1 = nmS W r t.2.1)).map fun t => t.2.2).sum = costS ts W r := by
  unfold costS
  induction tiesW ts W with
  | nil => rfl
  | cons t l ih =>
    rw [List.filter_cons, List.map_cons, List.sum_cons]
    by_cases e : nmS W r t.1 = nmS W r t.2.1
    · rw [if_neg (by rw [decide_eq_true e]; decide), if_pos e, ih]
      omega
    · rw [if_pos (by rw [decide_eq_false e]; rfl), if_neg e, List.map_cons, List.sum_cons, ih]
theorem rowOD_get {W r : List Int} {i : Nat} {p : Int} (hl : r.length = i + 1) (hp : p ∈ W) (hi : W.idxOf p < i + 1) : (rowOD W i r).get [W.idxOf p] = some (.d (.int (nmS W r p))) := by
  unfold rowOD OD.get nmS
  rw [List.getElem?_map, List.getElem?_map, List.getElem?_eq_getElem (by omega), List.getD_eq_getElem?_getD, List.getElem?_eq_getElem (by omega)]
  rfl

section
variable {P : Program} {w : World} {K : PySem.W.Frag} {mg : Str → Option Value} {base : Heap}
theorem sc_law_least_of : FnScope nm_law_least_of ps_law_least_of (defScope s_law_least_of) := ⟨rfl, rfl, rfl, by decide +kernel, rfl, by decide +kernel, by decide +kernel⟩
theorem ok_law_least_of {f : Addr} {fd : FuncData} (T : Txt mg) (Ds : Defs K mg) (D : Dfn K mg "_law_least_of" s_law_least_of ps_law_least_of f fd) : FnOk P w K mg base CX0 1 f fd ps_law_least_of (spD K fLLeast) := by
  refine D.F.ok sc_law_least_of (fun vs H Q E h => ?_) (fun cdv A outer s H vs Q E hr h => ?_)
  · obtain ⟨S, B, ds, d, w, hd, ⟨ts, ps, W, x, rfl, _⟩, _⟩ := h
    exact DqAll.length hd
  · obtain ⟨S, B, ds, d, w, hd, ⟨ts, ps, W, x, rfl, hW, hl, hps, rfl⟩, q⟩ := h
    obtain ⟨v1, v2, v3, v4, rfl, h1, h2, h3, h4⟩ := args4 hd
    have hu := hu_of hr
    refine ⟨_, (pss_cons (ps_set (i := 4) sc_law_least_of.nd rfl (Or.inl rfl) (pe_lst (pa_cons (pe_disp (pps_cons (pe_ix ix_list (pv 0) pe_int (fun _ _ => rfl)) (pv 3) pps_nil) rfl rfl (List.cons_ne_nil _ _) (Nat.le_of_ble_eq_true rfl)) pa_nil)))
      (pss_cons (ps_for PassesOwn.never rfl (pi_list (pe_slice sl_list (pv 0) (po_some pe_int) po_none)) (pg_name (i := 5) sc_law_least_of.nd rfl (Or.inl rfl))
        (pss_cons (ps_set (i := 6) sc_law_least_of.nd rfl (Or.inl rfl) (pe_lst pa_nil))
        (pss_cons (ps_for PassesOwn.never rfl (pi_list (pv 4)) (pg_name (i := 7) sc_law_least_of.nd rfl (Or.inl rfl))
          (pss_one (ps_for PassesOwn.never rfl (pi_list (pe_ifExp (pt_cmpR op_in_seq (pv 5) (pv 2) (by rfl)) (pe_lst (pa_cons (pv 5) pa_nil)) (pv 2))) (pg_name (i := 8) sc_law_least_of.nd rfl (Or.inl rfl))
            (pss_cons (ps_set (i := 9) sc_law_least_of.nd rfl (Or.inl rfl) (pe_callTy (cr_dictD) (by rfl) T.m_dict (by decide +kernel) (pa_cons (pv 7) pa_nil)))
            (pss_cons (ps_dput hu (pv 9) (pv 5) (pv 8) rfl)
            (pss_one (ps_expr (pe_bm PySem.F.plainAttrs_list PySem.F.slot_list_append PySem.F.type_list_append mt_append (pv 6) (pa_cons (pv 9) pa_nil)))))))))
        (pss_one (ps_set (i := 4) sc_law_least_of.nd rfl (Or.inl rfl) (pv 6))))))
      (pss_one (ps_ret (pe_callB (cr_min rfl) (by rfl) T.m_min (by decide +kernel) (pa_cons (pe_lc (own := [("_law_row", 7)]) (g := (gName 7)) (by rfl) sc_law_least_of.nd (pi_list (pv 4)) (blkOk_by (own := [("_law_row", 7)]) (N := nm_law_least_of) (sc := defScope s_law_least_of) (by decide +kernel)) (fun _ _ _ _ _ => (pg_name (i := 7) sc_law_least_of.nd rfl (Or.inr rfl))) (fun _ _ _ _ _ => pts_nil) (fun _ _ _ _ _ => (pe_callB (r := rSum K) (cr_sum rfl) (by rfl) T.m_sum (by decide +kernel) (pa_cons (pe_lc (own := [("_law_tie", 10)]) (g := (gName 10)) (by rfl) sc_law_least_of.nd (pi_listK K (by rfl) (pv 1)) (blkOk_by (own := [("_law_tie", 10)]) (by kernel_rfl)) (fun _ _ _ _ _ => (pg_name (i := 10) sc_law_least_of.nd rfl (Or.inl rfl))) (fun _ _ _ _ _ => (pts_one (pt_cmpR op_ne (pe_dget hu (pv 7) (pe_ix (r := rIxT K) ix_tup (pv 10) pe_int (fun _ _ => rfl)) (fun _ _ => rfl)) (pe_dget hu (pv 7) (pe_ix (r := rIxT K) ix_tup (pv 10) pe_int (fun _ _ => rfl)) (fun _ _ => rfl)) (nomark _)))) (fun _ _ _ _ _ => (pe_ix (r := rIxT K) ix_tup (pv 10) pe_int (fun _ _ => rfl)))) pa_nil)))) pa_nil)))))), ?_⟩
    refine fn_pure w (sl_some (s := .d _) h1 (sl_some (s := .d _) h2 (sl_some (s := .d _) h3 (sl_some (s := .d _) h4 (sl_none (sl_none (sl_none (sl_none (sl_none (sl_none (sl_none sl_nil))))))))))) rfl ?_ q
    obtain ⟨hW1, hW2, hW3⟩ := hW
    obtain ⟨hP1, hP2⟩ := hps
    obtain ⟨w0, W0, rfl⟩ : ∃ w0 W0, W = w0 :: W0 := by
      cases W with
      | nil => exact absurd rfl hW2
      | cons a b => exact ⟨a, b, rfl⟩
    obtain ⟨W, hWe⟩ : ∃ W, W = w0 :: W0 := ⟨_, rfl⟩
    rw [← hWe] at hW1 hW3 ⊢
    have hWl : W.length = W0.length + 1 := by rw [hWe]; rfl
    have hdrop : W.drop 1 = W0 := by rw [hWe]; rfl
    have hat0 : atI (W.map PyData.int) 0 = some (.int w0) := atI_at (by decide) (by rw [hWe]; rfl)
    let rowsO : Nat → OD := fun i => .c .lst ((rowsS ps W x i).map (rowOD W i))
    refine s_seq (s_asgN (xf_ft (o := rowsO 0) (ft_is (ft_lst (fa_cons (ft_disp1 (k := w0) (n_ixL (n_rd rfl rfl) n_int hat0) (ft_d (d := .int x) (n_rd rfl rfl))) fa_nil) (Nat.le_of_ble_eq_true rfl)) (by show _ = OD.c .lst ((rowsS ps W x 0).map (rowOD W 0)); rw [hWe]; rfl))).x fun o Γ' ⟨e1, e2⟩ As => ?_)
    subst e1 e2
    refine s_giveQ (i := 4) rfl rfl ?_
    refine s_seq (s_for W0 PyData.int (nw_is (nw_list (n_slL (ds := W.map .int) (n_rd rfl rfl) (np_some n_int) np_none)) (by rw [cutA_map]; exact congrArg (List.map PyData.int) ((cutA_drop W 1).trans hdrop))) (fun i Γ' => ∃ x5 x6 x7 x8 x9 : Option Sl, Γ' = [some (.d (.list (W.map .int))), some (.d (.list ((tiesW ts W).map tieD))), some (.d (.list (ps.map .int))), some (.d (.int x)), some (.q (TRq K (rowsO i))), x5, x6, x7, x8, x9, none]) ⟨none, none, none, none, none, rfl⟩ (fun i p Γ' hp hI => ⟨_, gt_1, ?_⟩) (fun Γ' hI => ?_))
    · obtain ⟨x5, x6, x7, x8, x9, rfl⟩ := hI
      have hil := (List.getElem?_eq_some_iff.mp hp).1
      have hWp : W[i + 1]? = some p := by rw [hWe]; exact hp
      have hgD : W.getD (i + 1) 0 = p := by rw [List.getD_eq_getElem?_getD, hWp]; rfl
      have htk : W.take (i + 1 + 1) = W.take (i + 1) ++ [p] := by rw [List.take_add_one, hWp]; rfl
      have hpn : p ∉ W.take (i + 1) := fun z => by
        obtain ⟨m, hm⟩ := List.getElem?_of_mem z
        rw [List.getElem?_take] at hm
        split at hm
        · have := nd_at hW1 hm hWp
          omega
        · cases hm
      have hfew := rowsS_4096 (W := W) (x := x) hP2 (i := i) (by omega)
      have hfew1 := rowsS_4096 (W := W) (x := x) hP2 (i := i + 1) (by omega)
      let f : List Int → List (List Int) := fun r => (candW ps p).map fun o => r ++ [o]
      have hnx : rowsS ps W x (i + 1) = (rowsS ps W x i).flatMap f := by
        show (rowsS ps W x i).flatMap (fun r => (candW ps (W.getD (i + 1) 0)).map fun o => r ++ [o]) = _
        rw [hgD]
      rw [hnx] at hfew1
      let lo : List (List Int) → OD := fun rs => .c .lst (rs.map (rowOD W (i + 1)))
      refine s_seq (s_asgN (xf_ft (o := lo []) (ft_is (ft_lst fa_nil (Nat.le_of_ble_eq_true rfl)) rfl)).x fun o Γ' ⟨e1, e2⟩ As => ?_)
      subst e1 e2
      refine s_seq (s_forQ (os := (rowsS ps W x i).map (rowOD W i)) (et_at ep_var (it_q rfl) rfl) (fun j Γ' => ∃ (As : List Addr) (x7 x8 x9 : Option Sl), Γ' = [some (.d (.list (W.map .int))), some (.d (.list ((tiesW ts W).map tieD))), some (.d (.list (ps.map .int))), some (.d (.int x)), some (.q (TRq K (rowsO i))), some (.d (.int p)), some (nT K (lo (((rowsS ps W x i).take j).flatMap f)) As), x7, x8, x9, none]) ⟨As, x7, x8, x9, rfl⟩ (fun j ro Γ' hr hI => ?_) fun Γ' hI => ?_)
      · obtain ⟨As, x7, x8, x9, rfl⟩ := hI
        obtain ⟨r, hr2, rfl⟩ := Option.map_eq_some_iff.mp ((List.getElem?_map ..).symm.trans hr)
        have hrl := (rowsS_mem.mp (List.mem_of_getElem? hr2)).1
        have hle := flat_leS f (rowsS ps W x i) j
        obtain ⟨acc, hacc⟩ : ∃ acc, acc = ((rowsS ps W x i).take j).flatMap f := ⟨_, rfl⟩
        rw [← hacc] at hle ⊢
        have hcl := candW_len (p := p) hP2
        refine s_for (candW ps p) PyData.int (nw_list (n_is (n_ite (b := decide (p ∈ ps)) (nb_test (n_in (neg := false) (t := false) (ns := ps) (n_rd rfl rfl) (n_rd rfl rfl))) (fun _ => n_lst (na_cons (n_rd rfl rfl) na_nil) (Nat.le_of_ble_eq_true rfl)) (fun _ => n_rd rfl rfl)) ?cand)) (fun m Γ' => ∃ (As : List Addr) (x8 x9 : Option Sl), Γ' = [some (.d (.list (W.map .int))), some (.d (.list ((tiesW ts W).map tieD))), some (.d (.list (ps.map .int))), some (.d (.int x)), some (.q (TRq K (rowsO i))), some (.d (.int p)), some (nT K (lo (acc ++ ((candW ps p).take m).map fun o => r ++ [o])) As), some (.q (TRq K (rowOD W i r))), x8, x9, none]) ⟨As, x8, x9, by rw [List.take_zero, List.map_nil, List.append_nil]; rfl⟩ (fun m o Γ' ho hI => ⟨_, gt_1, ?_⟩) (fun Γ' hI => ?_)
        case cand =>
          unfold candW
          by_cases h : p ∈ ps
          · rw [decide_eq_true h, if_pos h]
            rfl
          · rw [decide_eq_false h, if_neg h]
            rfl
        · obtain ⟨As, x8, x9, rfl⟩ := hI
          have hml := (List.getElem?_eq_some_iff.mp ho).1
          refine s_seq (s_asgN (xf_ft (o := rowOD W i r) (ft_dictD (ks := kI (W.take (i + 1))) (ds := r.map .int) (et_at ep_var (it_q rfl) rfl))).x fun o' Γ' ⟨e1, e2⟩ As2 => ?_)
          subst e1 e2
          refine s_seq (s_dputT (ki := W.take (i + 1)) (z := p) (xf_a (d := .int o) (n_rd rfl rfl) rfl).x fun o' Γ' ⟨e1, e2⟩ => ?_)
          subst e1 e2
          refine ⟨none, 9, [], rowOD W i r, As2, (r.map PyData.int).map .d, ⟨rfl, ep_var, rfl⟩, hW1.sublist (List.take_sublist _ _), by rw [List.length_take]; omega, n_rd rfl rfl, .inr ⟨hpn, fun As3 => ?_⟩⟩
          have e3 : (rowOD W i r).put [] (.c (.dK (kI (W.take (i + 1) ++ [p]))) ((r.map PyData.int).map .d ++ [.d (.int o)])) = rowOD W (i + 1) (r ++ [o]) := by
            unfold rowOD
            rw [htk, List.map_append, List.map_append]
            rfl
          rw [e3]
          have hlen : (acc ++ ((candW ps p).take m).map fun o => r ++ [o]).length ≤ 4100 := by
            rw [List.length_append, List.length_map, List.length_take]
            have : ((rowsS ps W x i).flatMap f).length ≤ 4096 := hfew1
            omega
          refine s_appT (p := []) (x := none) (i := 6) (o := lo (acc ++ ((candW ps p).take m).map fun o => r ++ [o])) (As := As) (os := (acc ++ ((candW ps p).take m).map fun o => r ++ [o]).map (rowOD W (i + 1))) ⟨rfl, ep_var, rfl⟩ (by rw [List.length_map]; omega) (xf_var (i := 9) rfl) fun o' Γ' ⟨e1, e2⟩ => ?_
          subst e1 e2
          refine ⟨rfl, fun As4 => ⟨As4, some (.d (.int o)), none, ?_⟩⟩
          have e4 : ((candW ps p).take (m + 1)).map (fun o => r ++ [o]) = ((candW ps p).take m).map (fun o => r ++ [o]) ++ [r ++ [o]] := by
            rw [List.take_add_one, ho, List.map_append]
            rfl
          rw [e4, ← List.append_assoc]
          have e5 : ∀ A : List (List Int), (A ++ [r ++ [o]]).map (rowOD W (i + 1)) = A.map (rowOD W (i + 1)) ++ [rowOD W (i + 1) (r ++ [o])] := fun A => List.map_append
          show _ = [_, _, _, _, _, _, some (nT K (.c .lst ((_ ++ [r ++ [o]]).map (rowOD W (i + 1)))) As4), _, _, _, _]
          rw [e5]
          rfl
        · obtain ⟨As, x8, x9, rfl⟩ := hI
          refine ⟨As, some (.q (TRq K (rowOD W i r))), x8, x9, ?_⟩
          rw [flat_takeS f hr2, ← hacc, List.take_length]
      · obtain ⟨As, x7, x8, x9, rfl⟩ := hI
        rw [List.length_map, List.take_length, ← hnx]
        refine s_giveQ (i := 6) rfl rfl ?_
        exact s_asgQ (et_at (o := rowsO (i + 1)) (sub := rowsO (i + 1)) ep_var (it_q rfl) rfl) stays_TRq ⟨some (.d (.int p)), some (.q (TRq K (rowsO (i + 1)))), x7, x8, x9, rfl⟩
    · obtain ⟨x5, x6, x7, x8, x9, rfl⟩ := hI
      have hfew := rowsS_4096 (W := W) (x := x) hP2 (i := W0.length) (by omega)
      have hts : (tiesW ts W).length ≤ 100 := Nat.le_trans (List.length_filter_le _ _) hl
      have hmin : leastS ts ps W x = leastL ((rowsS ps W x W0.length).map (costS ts W)) := by
        unfold leastS
        rw [hWl, Nat.add_sub_cancel]
      refine s_ret (n_is (n_minL (ns := (rowsS ps W x W0.length).map (costS ts W)) (n_is (n_lcQ (rowsS ps W x W0.length) (rowOD W W0.length) (fun _ => true) (fun r => .int (costS ts W r)) (et_at ep_var (it_q rfl) rfl) (by omega) (fun r hr => nb_yes) fun r hr _ => n_is (n_sum (ns := ((tiesW ts W).filter fun t => !decide (nmS W r t.1 = nmS W r t.2.1)).map fun t => t.2.2) (n_is (n_lc (tiesW ts W) tieD (fun t => !decide (nmS W r t.1 = nmS W r t.2.1)) (fun t => .int t.2.2) (nw_list (n_rd rfl rfl)) (by omega) fun t ht => nt (gn_1 (by decide)) (nb_test (n_neI (i := nmS W r t.1) (j := nmS W r t.2.1) ?ra ?rb)) fun _ => n_ixT (d := .int t.2.2) (n_rd (d := tieD t) rfl rfl) n_int rfl) (by rw [List.map_map]; rfl))) (by rw [costS_filt])) (by rw [List.filter_eq_self.mpr fun _ _ => rfl, List.map_map]; rfl)) (fun z => rowsS_ne (W := W) (x := x) hP1 W0.length (List.map_eq_nil_iff.mp z))) (by rw [hmin])) rfl
      case ra =>
        have hm := of_decide_eq_true ((Bool.and_eq_true_iff.mp (List.mem_filter.mp ht).2).1)
        have hix := List.idxOf_lt_length_of_mem hm
        have hrl := (rowsS_mem.mp hr).1
        have hk : (W.take (W0.length + 1))[W.idxOf t.1]? = some t.1 := by
          rw [← hWl, List.take_length, List.getElem?_eq_getElem hix, List.getElem_idxOf]
        exact n_at (ep_dget (ki := W.take (W0.length + 1)) (os := (r.map PyData.int).map .d) (j := W.idxOf t.1) ep_var (it_q rfl) rfl (n_ixT (d := .int t.1) (n_rd (d := tieD t) rfl rfl) n_int rfl) (hW1.sublist (List.take_sublist _ _)) hk) (it_q rfl) (rowOD_get hrl hm (by omega)) rfl
      case rb =>
        have hm := of_decide_eq_true ((Bool.and_eq_true_iff.mp (List.mem_filter.mp ht).2).2)
        have hix := List.idxOf_lt_length_of_mem hm
        have hrl := (rowsS_mem.mp hr).1
        have hk : (W.take (W0.length + 1))[W.idxOf t.2.1]? = some t.2.1 := by
          rw [← hWl, List.take_length, List.getElem?_eq_getElem hix, List.getElem_idxOf]
        exact n_at (ep_dget (ki := W.take (W0.length + 1)) (os := (r.map PyData.int).map .d) (j := W.idxOf t.2.1) ep_var (it_q rfl) rfl (n_ixT (d := .int t.2.1) (n_rd (d := tieD t) rfl rfl) n_int rfl) (hW1.sublist (List.take_sublist _ _)) hk) (it_q rfl) (rowOD_get hrl hm (by omega)) rfl
end
end Pw

/-! ## K41_law_row_due -/
namespace Pw
open PySem L2 Evl
def fLRowDue (ds : List PyData) (d : PyData) : Prop := ∃ (n : Int) (ts : List Tie) (ps L : List Int) (par : Int → Int) (p : Int), ds = [webD n ts, .list (ps.map .int), .int p] ∧ TreeW n ts ∧ n ≤ 7 ∧ (ps.Nodup ∧ ps.length ≤ 4 ∧ ∀ q ∈ ps, 0 ≤ q ∧ q < n) ∧ ps ≠ [] ∧ Hung n ts L par ∧ (0 ≤ p ∧ p < n) ∧ d = rwD (tabT n ps ts par p)
theorem sum_filt {α : Type} (q : α → Bool) (f : α → Int) : ∀ l : List α, ((l.filter q).map f).sum = (l.map fun x => if q x = true then f x else 0).sum
  | [] => rfl
  | a :: l => by
    rw [List.filter_cons, List.map_cons, List.sum_cons, ← sum_filt q f l]
    by_cases h : q a = true
    · rw [if_pos h, if_pos h, List.map_cons, List.sum_cons]
    · rw [if_neg h, if_neg h]
      omega
section
variable {n : Int} {ts : List Tie} {L : List Int} {par : Int → Int} {ps W : List Int} {Tb : Int → Row} {p : Int}
def belowC (n : Int) (W : List Int) (p : Int) : List Int := (rngI 1 (n - 1).toNat).filter fun c => decide (c ∈ W) && !decide (c = p)
def costSub (ts : List Tie) (W : List Int) (ow : Int → Nat) : Int := ((tiesW ts W).map fun t => if ow t.1 = ow t.2.1 then 0 else t.2.2).sum
theorem mem_belowC (hB : Below n par p W) {c : Int} : c ∈ belowC n W p ↔ c ∈ W ∧ c ≠ p := by
  unfold belowC
  rw [List.mem_filter, rngI_mem]
  constructor
  · rintro ⟨_, h⟩
    simp only [Bool.and_eq_true, decide_eq_true_iff, Bool.not_eq_true', decide_eq_false_iff_not] at h
    exact h
  · rintro ⟨h1, h2⟩
    have := (hB.up c h1 h2).1
    refine ⟨by omega, ?_⟩
    simp only [Bool.and_eq_true, decide_eq_true_iff, Bool.not_eq_true', decide_eq_false_iff_not]
    exact ⟨h1, h2⟩
theorem below_split (hB : Below n par p W) (g : Int → Int) : (W.map g).sum = g p + ((belowC n W p).map g).sum := by
  obtain ⟨W', rfl⟩ : ∃ W', W = p :: W' := by
    have := hB.hd
    cases W with
    | nil => simp at this
    | cons a W' =>
      simp only [List.getElem?_cons_zero, Option.some.injEq] at this
      exact ⟨W', by rw [this]⟩
  obtain ⟨h1, h2⟩ := List.nodup_cons.mp hB.nd
  have hp : W'.Perm (belowC n (p :: W') p) := (List.perm_ext_iff_of_nodup h2 ((rngI_nd _ _).sublist List.filter_sublist)).mpr fun c => by
    show c ∈ W' ↔ c ∈ belowC n (p :: W') p
    rw [mem_belowC hB]
    constructor
    · intro h
      exact ⟨List.mem_cons_of_mem _ h, fun z => h1 (z ▸ h)⟩
    · rintro ⟨h, hn⟩
      rcases List.mem_cons.mp h with e | h
      · exact absurd e hn
      · exact h
  rw [List.map_cons, List.sum_cons, sum_permT (hp.map g)]
theorem sub_eq (T : TreeW n ts) (h : Hung n ts L par) (hT : TabOk n ps par (wUp ts par) Tb) (hB : Below n par p W) {ow : Int → Nat} (ho : ∀ c ∈ W, ow c < ps.length ∧ blocked ps c (ow c) = false) :
    costSub ts W ow = valR (Tb p) (ow p) + ((belowC n W p).map fun c => wUp ts par c * (if ow c = ow (par c) then 0 else 1) + valR (Tb c) (ow c) - cheapR (Tb c) (wUp ts par c) (ow (par c))).sum := by
  have e1 : costSub ts W ow = ((belowC n W p).map fun c => wUp ts par c * (if ow c = ow (par c) then 0 else 1)).sum := by
    unfold costSub tiesW belowC
    rw [sum_filt, sum_filt]
    refine h.sum T fun t ht c hc e => ?_
    have hiff : (decide (t.1 ∈ W) && decide (t.2.1 ∈ W)) = (decide (c ∈ W) && !decide (c = p)) := by
      rw [Bool.eq_iff_iff]
      simp only [Bool.and_eq_true, decide_eq_true_iff, Bool.not_eq_true', decide_eq_false_iff_not]
      constructor
      · intro hm
        have hcp : c ∈ W ∧ par c ∈ W := by
          rcases e with ⟨e1, e2⟩ | ⟨e1, e2⟩
          · rw [e1, e2] at hm
            exact ⟨hm.2, hm.1⟩
          · rw [e1, e2] at hm
            exact hm
        refine ⟨hcp.1, fun z => ?_⟩
        rw [z] at hcp hc
        exact hB.top hc.1 hcp.2
      · rintro ⟨h1, h2⟩
        have h3 := (hB.up c h1 h2).2
        rcases e with ⟨e1, e2⟩ | ⟨e1, e2⟩
        · rw [e1, e2]
          exact ⟨h3, h1⟩
        · rw [e1, e2]
          exact ⟨h1, h3⟩
    rw [hiff]
    by_cases z : (decide (c ∈ W) && !decide (c = p)) = true
    · rw [if_pos z, if_pos z, wUp_at T ht e]
      rcases e with ⟨h1, h2⟩ | ⟨h1, h2⟩
      · rw [h1, h2]
        by_cases y : ow c = ow (par c)
        · rw [if_pos y, if_pos y.symm]
          omega
        · rw [if_neg y, if_neg fun x => y x.symm]
          omega
      · rw [h1, h2]
        by_cases y : ow c = ow (par c)
        · rw [if_pos y, if_pos y]
          omega
        · rw [if_neg y, if_neg y]
          omega
    · rw [if_neg z, if_neg z]
  have e2 : (W.map fun x => valR (Tb x) (ow x)).sum = ((belowC n W p).map fun c => cheapR (Tb c) (wUp ts par c) (ow (par c))).sum := by
    rw [← kids_sum (par := par) (g := fun c => cheapR (Tb c) (wUp ts par c) (ow (par c))) (belowC n W p) W hB.nd fun c hc => by
      obtain ⟨h1, h2⟩ := (mem_belowC hB).mp hc
      exact (hB.up c h1 h2).2]
    refine congrArg List.sum (List.map_congr_left fun x hx => ?_)
    rw [hT.row x (hB.rng x hx), row_val (ho x hx).1 (ho x hx).2]
    have ek : (belowC n W p).filter (fun c => decide (par c = x)) = kidsT n par x := by
      unfold belowC kidsT
      rw [List.filter_filter]
      refine List.filter_congr fun c hc => ?_
      have hc := rngI_mem.mp hc
      by_cases e : par c = x
      · rw [decide_eq_true e]
        have hcW : c ∈ W := hB.cl c (by omega) (by rw [e]; exact hx)
        have hcp : c ≠ p := fun z => hB.top (by omega) (by rw [← z, e]; exact hx)
        rw [decide_eq_true hcW, decide_eq_false hcp]
        rfl
      · rw [decide_eq_false e]
        rfl
    rw [ek]
    refine congrArg List.sum (List.map_congr_left fun c hc => ?_)
    have hc := of_decide_eq_true (List.mem_filter.mp hc).2
    rw [hc]
  rw [below_split hB] at e2
  have e3 : ((belowC n W p).map fun c => wUp ts par c * (if ow c = ow (par c) then 0 else 1) + valR (Tb c) (ow c) - cheapR (Tb c) (wUp ts par c) (ow (par c))).sum + ((belowC n W p).map fun c => cheapR (Tb c) (wUp ts par c) (ow (par c))).sum = ((belowC n W p).map fun c => wUp ts par c * (if ow c = ow (par c) then 0 else 1)).sum + ((belowC n W p).map fun c => valR (Tb c) (ow c)).sum := by
    rw [← sum_addM, ← sum_addM]
    refine congrArg List.sum (List.map_congr_left fun c _ => ?_)
    omega
  omega
theorem tab_someW (hT : TabOk n ps par (wUp ts par) Tb) {ow : Int → Nat} {c : Int} (hc : 0 ≤ c ∧ c < n) (h1 : ow c < ps.length) (h2 : blocked ps c (ow c) = false) : (Tb c)[ow c]? = some (some (valR (Tb c) (ow c))) := by
  have h3 := row_at (ps := ps) (p := c) (g := fun k => ((kidsT n par c).map fun c => cheapR (Tb c) (wUp ts par c) k).sum) h1
  rw [h2, ← hT.row c hc] at h3
  have h4 : valR (Tb c) (ow c) = ((kidsT n par c).map fun y => cheapR (Tb y) (wUp ts par y) (ow c)).sum := by
    unfold valR
    rw [h3]
    rfl
  rw [h4, h3]
  rfl
theorem sub_low (T : TreeW n ts) (h : Hung n ts L par) (hT : TabOk n ps par (wUp ts par) Tb) (hB : Below n par p W) {ow : Int → Nat} (ho : ∀ c ∈ W, ow c < ps.length ∧ blocked ps c (ow c) = false) : valR (Tb p) (ow p) ≤ costSub ts W ow := by
  rw [sub_eq T h hT hB ho]
  have := sum_le_map (X := belowC n W p) (f := fun _ => 0) (g := fun c => wUp ts par c * (if ow c = ow (par c) then 0 else 1) + valR (Tb c) (ow c) - cheapR (Tb c) (wUp ts par c) (ow (par c))) fun c hc => by
    obtain ⟨h1, h2⟩ := (mem_belowC hB).mp hc
    have := cheap_le (w := wUp ts par c) (k := ow (par c)) (tab_someW hT (hB.rng c h1) (ho c h1).1 (ho c h1).2)
    omega
  rw [sumZ] at this
  omega
theorem sub_hit (T : TreeW n ts) (h : Hung n ts L par) (hT : TabOk n ps par (wUp ts par) Tb) (hB : Below n par p W) {ow : Int → Nat} (ho : ∀ c ∈ W, ow c < ps.length ∧ blocked ps c (ow c) = false) (hc : ∀ c ∈ W, c ≠ p → wUp ts par c * (if ow c = ow (par c) then 0 else 1) + valR (Tb c) (ow c) = cheapR (Tb c) (wUp ts par c) (ow (par c))) : costSub ts W ow = valR (Tb p) (ow p) := by
  rw [sub_eq T h hT hB ho]
  have : ((belowC n W p).map fun c => wUp ts par c * (if ow c = ow (par c) then 0 else 1) + valR (Tb c) (ow c) - cheapR (Tb c) (wUp ts par c) (ow (par c))) = (belowC n W p).map fun _ => 0 := List.map_congr_left fun c hm => by
    obtain ⟨h1, h2⟩ := (mem_belowC hB).mp hm
    have := hc c h1 h2
    omega
  rw [this, sumZ]
  omega
/-- the numbers chosen below a place, its own one given -/
def owS (n : Int) (ps : List Int) (ts : List Tie) (par : Int → Int) (p : Int) (k : Nat) : Nat → Int → Nat
  | 0, _ => k
  | f + 1, c => if c = p then k else idxR (rowW (tabT n ps ts par c) (wUp ts par c) (owS n ps ts par p k f (par c))) (cheapR (tabT n ps ts par c) (wUp ts par c) (owS n ps ts par p k f (par c)))
theorem owS_fuel (h : Hung n ts L par) (hB : Below n par p W) {k : Nat} : ∀ (f i : Nat) (c : Int), c ∈ W → L[i]? = some c → i ≤ f → owS n ps ts par p k f c = owS n ps ts par p k (f + 1) c
  | 0, i, c, hc, hi, hf => by
    have e : i = 0 := by omega
    rw [e, h.fst] at hi
    have hcp : c = p := Classical.byContradiction fun z => by
      have := (hB.up c hc z).1
      have := Option.some.inj hi
      omega
    show k = (if c = p then k else _)
    rw [if_pos hcp]
  | f + 1, i, c, hc, hi, hf => by
    show (if c = p then k else _) = (if c = p then k else _)
    by_cases z : c = p
    · rw [if_pos z, if_pos z]
    · rw [if_neg z, if_neg z]
      obtain ⟨h1, h2⟩ := hB.up c hc z
      cases i with
      | zero =>
        rw [h.fst] at hi
        have := Option.some.inj hi
        omega
      | succ i =>
        obtain ⟨j, hj, hp⟩ := h.above i c hi
        rw [owS_fuel h hB f j (par c) h2 hp (by omega)]
theorem owS_eq (h : Hung n ts L par) (hB : Below n par p W) {k : Nat} {c : Int} (hc : c ∈ W) (hcp : c ≠ p) : owS n ps ts par p k n.toNat c = idxR (rowW (tabT n ps ts par c) (wUp ts par c) (owS n ps ts par p k n.toNat (par c))) (cheapR (tabT n ps ts par c) (wUp ts par c) (owS n ps ts par p k n.toNat (par c))) := by
  have hpos := h.pos
  obtain ⟨m, hm⟩ : ∃ m, n.toNat = m + 1 := ⟨n.toNat - 1, by omega⟩
  obtain ⟨h1, h2⟩ := hB.up c hc hcp
  obtain ⟨i, hi⟩ := h.idx h1
  obtain ⟨j, hj, hp⟩ := h.above i c hi
  have hil := (List.getElem?_eq_some_iff.mp hi).1
  have hl := h.len
  rw [hm]
  have e := owS_fuel (ps := ps) (k := k) h hB m j (par c) h2 hp (by omega)
  show (if c = p then k else _) = _
  rw [if_neg hcp, e]
theorem owS_top (h : Hung n ts L par) {k : Nat} : owS n ps ts par p k n.toNat p = k := by
  have hpos := h.pos
  obtain ⟨m, hm⟩ : ∃ m, n.toNat = m + 1 := ⟨n.toNat - 1, by omega⟩
  rw [hm]
  show (if p = p then k else _) = k
  rw [if_pos rfl]
theorem idx_hd {x : Int} {l : List Int} (h : l[0]? = some x) : l.idxOf x = 0 := by
  cases l with
  | nil => simp at h
  | cons a l =>
    simp only [List.getElem?_cons_zero, Option.some.injEq] at h
    rw [h, List.idxOf_cons_self]
theorem leastS_eq (T : TreeW n ts) (h : Hung n ts L par) (hP : ps.Nodup) (hne : ps ≠ []) (hB : Below n par p W) {k : Nat} {x : Int} (hk : ps[k]? = some x) (hb : blocked ps p k = false) : leastS ts ps W x = valR (tabT n ps ts par p) k := by
  have hTab := tab_ok (ps := ps) h
  have hkl := (List.getElem?_eq_some_iff.mp hk).1
  have hix : ∀ {y : Int}, y ∈ ps → ps[ps.idxOf y]? = some y := fun {y} hy => by
    have := List.idxOf_lt_length_of_mem hy
    rw [List.getElem?_eq_getElem this, List.getElem_idxOf this]
  have hpW : p ∈ W := List.mem_of_getElem? hB.hd
  have hWl : 0 < W.length := List.length_pos_of_mem hpW
  have hixW : ∀ {c : Int}, c ∈ W → W[W.idxOf c]? = some c := fun {c} hc => by
    have := List.idxOf_lt_length_of_mem hc
    rw [List.getElem?_eq_getElem this, List.getElem_idxOf this]
  have hnb : p ∈ ps → x = p := fun hp => by
    unfold blocked at hb
    rw [decide_eq_true hp, Bool.true_and, Bool.not_eq_false', decide_eq_true_iff, hk] at hb
    exact Option.some.inj hb
  have hcost : ∀ {r : List Int} {ow : Int → Nat}, (∀ c ∈ W, ps[ow c]? = some (nmS W r c)) → costS ts W r = costSub ts W ow := fun {r ow} hr => by
    unfold costS costSub
    refine congrArg List.sum (List.map_congr_left fun t ht => ?_)
    have hm := (List.mem_filter.mp ht).2
    simp only [Bool.and_eq_true, decide_eq_true_iff] at hm
    have a1 := hr t.1 hm.1
    have a2 := hr t.2.1 hm.2
    by_cases z : ow t.1 = ow t.2.1
    · rw [z, a2] at a1
      rw [if_pos z, if_pos (Option.some.inj a1).symm]
    · rw [if_neg z, if_neg fun y => z (nd_at hP (by rw [y] at a1; exact a1) a2)]
  -- one that weighs so
  obtain ⟨ow, how⟩ : ∃ ow, ow = owS n ps ts par p k n.toNat := ⟨_, rfl⟩
  have hop : ∀ c, 0 ≤ c ∧ c < n → openR (tabT n ps ts par c) := fun c hc => by
    rw [hTab.row c hc]
    exact row_open hne
  have htop : ow p = k := by rw [how]; exact owS_top h
  have hat : ∀ c ∈ W, c ≠ p → (tabT n ps ts par c)[ow c]? = some (some (valR (tabT n ps ts par c) (ow c))) ∧ wUp ts par c * (if ow c = ow (par c) then 0 else 1) + valR (tabT n ps ts par c) (ow c) = cheapR (tabT n ps ts par c) (wUp ts par c) (ow (par c)) := fun c hc hcp => by
    have hmem : some (cheapR (tabT n ps ts par c) (wUp ts par c) (ow (par c))) ∈ rowW (tabT n ps ts par c) (wUp ts par c) (ow (par c)) := by
      obtain ⟨j, c0, hj, e⟩ := cheap_at (w := wUp ts par c) (k := ow (par c)) (hop c (hB.rng c hc))
      rw [e]
      exact List.mem_of_getElem? (i := j) (by rw [rowW_at, hj]; rfl)
    have hkk := (idxR_ok hmem).1
    have e2 : ow c = idxR (rowW (tabT n ps ts par c) (wUp ts par c) (ow (par c))) (cheapR (tabT n ps ts par c) (wUp ts par c) (ow (par c))) := by
      rw [how]
      exact owS_eq h hB hc hcp
    rw [← e2, rowW_at] at hkk
    obtain ⟨y, hy, ey⟩ := Option.map_eq_some_iff.mp hkk
    cases y with
    | none => cases ey
    | some c0 =>
      have ec : c0 + wUp ts par c * (if ow c = ow (par c) then 0 else 1) = cheapR (tabT n ps ts par c) (wUp ts par c) (ow (par c)) := Option.some.inj ey
      rw [val_of hy]
      exact ⟨hy, by omega⟩
  have hok : ∀ c ∈ W, ow c < ps.length ∧ blocked ps c (ow c) = false := fun c hc => by
    by_cases hcp : c = p
    · subst hcp
      rw [htop]
      exact ⟨hkl, hb⟩
    · have h1 := (hat c hc hcp).1
      have hlt := (List.getElem?_eq_some_iff.mp h1).1
      rw [hTab.row c (hB.rng c hc), row_len] at hlt
      refine ⟨hlt, ?_⟩
      rw [hTab.row c (hB.rng c hc), row_at hlt] at h1
      cases hbb : blocked ps c (ow c) with
      | false => rfl
      | true =>
        rw [hbb] at h1
        cases h1
  have hhit := sub_hit T h hTab hB hok fun c hc hcp => (hat c hc hcp).2
  rw [htop] at hhit
  let r0 : List Int := W.map fun c => ps.getD (ow c) 0
  have hnm0 : ∀ c ∈ W, ps[ow c]? = some (nmS W r0 c) := fun c hc => by
    have : nmS W r0 c = ps.getD (ow c) 0 := by
      unfold nmS
      rw [List.getD_eq_getElem?_getD, List.getElem?_map, hixW hc]
      rfl
    rw [this, List.getD_eq_getElem?_getD, List.getElem?_eq_getElem (hok c hc).1]
    rfl
  have hr0 : r0 ∈ rowsS ps W x (W.length - 1) := by
    refine rowsS_mem.mpr ⟨by rw [List.length_map]; omega, ?_, fun j o ho => ?_⟩
    · rw [List.getElem?_map, hB.hd]
      show some (ps.getD (ow p) 0) = some x
      rw [htop, List.getD_eq_getElem?_getD, hk]
      rfl
    · rw [List.getElem?_map] at ho
      obtain ⟨c, hc, rfl⟩ := Option.map_eq_some_iff.mp ho
      have hcm := List.mem_of_getElem? hc
      have e1 : W.getD (j + 1) 0 = c := by rw [List.getD_eq_getElem?_getD, hc]; rfl
      rw [e1]
      obtain ⟨h1, h2⟩ := hok c hcm
      unfold candW
      by_cases z : c ∈ ps
      · rw [if_pos z, List.mem_singleton, List.getD_eq_getElem?_getD]
        unfold blocked at h2
        rw [decide_eq_true z, Bool.true_and, Bool.not_eq_false', decide_eq_true_iff] at h2
        rw [h2]
        rfl
      · rw [if_neg z, List.getD_eq_getElem?_getD, List.getElem?_eq_getElem h1]
        exact List.getElem_mem h1
  have hm : valR (tabT n ps ts par p) k ∈ (rowsS ps W x (W.length - 1)).map (costS ts W) := List.mem_map.mpr ⟨r0, hr0, by rw [hcost hnm0, hhit]⟩
  obtain ⟨g1, g2⟩ := leastL_ok (List.ne_nil_of_mem hm)
  refine Int.le_antisymm (g2 _ hm) ?_
  obtain ⟨r, hr, er⟩ := List.mem_map.mp g1
  unfold leastS
  rw [← er]
  obtain ⟨h1, h2, h3⟩ := rowsS_mem.mp hr
  have hnm : ∀ c ∈ W, nmS W r c ∈ ps ∧ (c ∈ ps → nmS W r c = c) := fun c hc => by
    by_cases hcp : c = p
    · subst hcp
      have : nmS W r c = x := by
        unfold nmS
        rw [idx_hd hB.hd, List.getD_eq_getElem?_getD, h2]
        rfl
      rw [this]
      exact ⟨List.mem_of_getElem? hk, hnb⟩
    · have hi := List.idxOf_lt_length_of_mem hc
      have hi0 : W.idxOf c ≠ 0 := fun z => by
        have := hixW hc
        rw [z, hB.hd] at this
        exact hcp (Option.some.inj this).symm
      obtain ⟨j, hj⟩ : ∃ j, W.idxOf c = j + 1 := ⟨W.idxOf c - 1, by omega⟩
      have hrj : r[j + 1]? = some (nmS W r c) := by
        unfold nmS
        rw [hj, List.getD_eq_getElem?_getD, List.getElem?_eq_getElem (by omega)]
        rfl
      have h4 := h3 j _ hrj
      have e1 : W.getD (j + 1) 0 = c := by rw [List.getD_eq_getElem?_getD, ← hj, hixW hc]; rfl
      rw [e1] at h4
      unfold candW at h4
      by_cases z : c ∈ ps
      · rw [if_pos z, List.mem_singleton] at h4
        rw [h4]
        exact ⟨z, fun _ => rfl⟩
      · rw [if_neg z] at h4
        exact ⟨h4, fun y => absurd y z⟩
  have h5 := sub_low T h hTab hB (ow := fun c => ps.idxOf (nmS W r c)) fun c hc => by
    obtain ⟨a, b⟩ := hnm c hc
    refine ⟨List.idxOf_lt_length_of_mem a, ?_⟩
    unfold blocked
    by_cases z : c ∈ ps
    · rw [b z, hix z, decide_eq_true rfl]
      simp
    · rw [decide_eq_false z]
      rfl
  rw [hcost (ow := fun c => ps.idxOf (nmS W r c)) fun c hc => hix (hnm c hc).1]
  have e6 : ps.idxOf (nmS W r p) = k := by
    have : nmS W r p = x := by
      unfold nmS
      rw [idx_hd hB.hd, List.getD_eq_getElem?_getD, h2]
      rfl
    rw [this]
    exact nd_at hP (hix (List.mem_of_getElem? hk)) hk
  have h5 : valR (tabT n ps ts par p) (ps.idxOf (nmS W r p)) ≤ _ := h5
  rw [e6] at h5
  exact h5
/-- a row as it is told, post by post -/
theorem row_told (T : TreeW n ts) (h : Hung n ts L par) (hP : ps.Nodup) (hne : ps ≠ []) (hB : Below n par p W) : (tabT n ps ts par p).map oI = ps.map fun q => bif barB ps p q then PyData.none else .int (leastS ts ps W q) := by
  have hp := hB.rng p (List.mem_of_getElem? hB.hd)
  have hTab := tab_ok (ps := ps) h
  refine List.ext_getElem? fun k => ?_
  by_cases hk : k < ps.length
  · obtain ⟨q, hq⟩ : ∃ q, ps[k]? = some q := ⟨_, List.getElem?_eq_getElem hk⟩
    rw [List.getElem?_map, List.getElem?_map, hq]
    have hbar : blocked ps p k = barB ps p q := by
      unfold blocked barB
      rw [hq]
      congr 2
      rw [decide_eq_decide, Option.some.injEq]
      exact ⟨fun h => h.symm, fun h => h.symm⟩
    cases hb : blocked ps p k with
    | true =>
      rw [hTab.row p hp, row_at hk, hb]
      rw [hb] at hbar
      show some (oI none) = some (bif barB ps p q then PyData.none else _)
      rw [← hbar]
      rfl
    | false =>
      have h1 := tab_someW (ow := fun _ => k) hTab hp hk hb
      have h1 : (tabT n ps ts par p)[k]? = some (some (valR (tabT n ps ts par p) k)) := h1
      rw [h1]
      rw [hb] at hbar
      show some (PyData.int _) = some (bif barB ps p q then PyData.none else _)
      rw [← hbar, leastS_eq T h hP hne hB hq hb]
      rfl
  · rw [List.getElem?_eq_none (by rw [List.length_map, hTab.row p hp, row_len]; omega), List.getElem?_eq_none (by rw [List.length_map]; omega)]
end

section
variable {P : Program} {w : World} {K : PySem.W.Frag} {mg : Str → Option Value} {base : Heap}
theorem sc_law_row_due : FnScope nm_law_row_due ps_law_row_due (defScope s_law_row_due) := ⟨rfl, rfl, rfl, by decide +kernel, rfl, by decide +kernel, by decide +kernel⟩
theorem ok_law_row_due {f : Addr} {fd : FuncData} (T : Txt mg) (Ds : Defs K mg) (D : Dfn K mg "_law_row_due" s_law_row_due ps_law_row_due f fd) : FnOk P w K mg base CX0 3 f fd ps_law_row_due (spD K fLRowDue) := by
  obtain ⟨f_law_within, fd_law_within, D_law_within⟩ := Ds.d_law_within
  have G_law_within := ok_law_within (P := P) (w := w) (base := base) T Ds D_law_within
  obtain ⟨f_law_least_of, fd_law_least_of, D_law_least_of⟩ := Ds.d_law_least_of
  have G_law_least_of := ok_law_least_of (P := P) (w := w) (base := base) T Ds D_law_least_of
  refine D.F.ok sc_law_row_due (fun vs H Q E h => ?_) (fun cdv A outer s H vs Q E hr h => ?_)
  · obtain ⟨S, B, ds, d, w, hd, ⟨n, ts, ps, L, par, p, rfl, _⟩, _⟩ := h
    exact DqAll.length hd
  · obtain ⟨S, B, ds, d, w, hd, ⟨n, ts, ps, L, par, p, rfl, hT, hn, hP, hne, hH, hp, rfl⟩, q⟩ := h
    have hr_law_within := hr.mono (show 2 ≤ 2 by decide)
    have hr_law_least_of := hr.mono (show 1 ≤ 2 by decide)
    obtain ⟨v1, v2, v3, rfl, h1, h2, h3⟩ := args3 hd
    refine ⟨_, (pss_cons (ps_asg (pe_call G_law_within hr_law_within (by rfl) D_law_within.g D_law_within.F.kp D_law_within.b .nil pass0 (pa_cons (pv 0) (pa_cons (pv 2) pa_nil))) (pg_tup (by rfl) (pgs_cons (pg_name (i := 3) sc_law_row_due.nd rfl (Or.inl rfl)) (pgs_cons (pg_name (i := 4) sc_law_row_due.nd rfl (Or.inl rfl)) pgs_nil))))
      (pss_cons (ps_set (i := 5) sc_law_row_due.nd rfl (Or.inl rfl) (pe_lst pa_nil))
      (pss_cons (ps_for PassesOwn.never rfl (pi_list (pv 1)) (pg_name (i := 6) sc_law_row_due.nd rfl (Or.inl rfl))
        (pss_one (ps_expr (pe_bm PySem.F.plainAttrs_list PySem.F.slot_list_append PySem.F.type_list_append mt_append (pv 5) (pa_cons (pe_ifExp (PW.pt (pw_and (pt_cmpR op_in_seq (pv 2) (pv 1) (by rfl)) (pw_and1 (pt_cmpR op_ne (pv 2) (pv 6) (nomark _))))) pe_non (pe_call G_law_least_of hr_law_least_of (by rfl) D_law_least_of.g D_law_least_of.F.kp D_law_least_of.b .nil pass0 (pa_cons (pv 3) (pa_cons (pv 4) (pa_cons (pv 1) (pa_cons (pv 6) pa_nil)))))) pa_nil)))))
      (pss_one (ps_ret (pv 5)))))), ?_⟩
    refine fn_pure w (sl_some (s := .d _) h1 (sl_some (s := .d _) h2 (sl_some (s := .d _) h3 (sl_none (sl_none (sl_none (sl_none sl_nil))))))) rfl ?_ q
    obtain ⟨hP1, hP2, hP3⟩ := hP
    have htl := hT.web.len
    refine s_seq (s_asgGX (R := fun d Γ' => ∃ L par, Hung n ts L par ∧ d = withinD ts (wthn par L p) ∧ Γ' = [some (.d (webD n ts)), some (.d (.list (ps.map .int))), some (.d (.int p)), none, none, none, none]) (x_xo (xf_call (post := fun r => ∃ L par, Hung n ts L par ∧ r = .d (withinD ts (wthn par L p))) (et_cons (et_d (n_rd rfl rfl)) (et_cons (et_d (n_rd rfl rfl)) et_nil)) ⟨n, ts, p, rfl, hT, by omega, hp, rfl⟩).x fun o Γ' ⟨⟨L, par, h1, e1⟩, e2⟩ => ⟨_, e1, L, par, h1, rfl, e2⟩) fun d Γ' ⟨L2, par2, hH2, e1, e2⟩ => ?_)
    subst e1 e2
    have hB := wthn_ok hH2 hp
    obtain ⟨W, hW⟩ : ∃ W, W = wthn par2 L2 p := ⟨_, rfl⟩
    rw [← hW] at hB ⊢
    have hrow := row_told (ps := ps) hT hH2 hP1 hne hB
    rw [tab_one hT hH2 hH] at hrow
    have hWl : W.length ≤ 7 := by
      have := few_in (n := n.toNat) hB.nd fun k hk => by
        have := hB.rng k hk
        omega
      omega
    have hWne : W ≠ [] := List.ne_nil_of_mem (List.mem_of_getElem? hB.hd)
    refine ⟨_, gt_tup rfl (gts_cons gt_1 (gts_cons gt_1 gts_nil)), ?_⟩
    refine s_seq (s_new na_nil (Nat.le_of_ble_eq_true rfl) ?_)
    refine s_seq (s_for ps PyData.int (nw_list (n_rd rfl rfl)) (fun i Γ' => ∃ x6 : Option Sl, Γ' = [some (.d (webD n ts)), some (.d (.list (ps.map .int))), some (.d (.int p)), some (.d (.list (W.map .int))), some (.d (.list ((tiesW ts W).map tieD))), some (.o .lst ((ps.take i).map fun q => bif barB ps p q then PyData.none else .int (leastS ts ps W q))), x6]) ⟨none, rfl⟩ (fun i q Γ' hq hI => ⟨_, gt_1, ?_⟩) (fun Γ' hI => ?_))
    · obtain ⟨x6, rfl⟩ := hI
      refine s_appA (ds := (ps.take i).map fun q => bif barB ps p q then PyData.none else .int (leastS ts ps W q)) (d := bif barB ps p q then PyData.none else .int (leastS ts ps W q)) rfl (by rw [List.length_map, List.length_take]; omega) (n_ite (b := barB ps p q) (nb_and (b := decide (p ∈ ps)) (nb_test (n_in (neg := false) (t := false) (ns := ps) (n_rd rfl rfl) (n_rd rfl rfl))) fun _ => nb_test (n_neI (i := p) (j := q) (n_rd rfl rfl) (n_rd rfl rfl))) (fun _ => n_non) fun _ => n_call (f := fLLeast) (na_cons (n_rd rfl rfl) (na_cons (n_rd rfl rfl) (na_cons (n_rd rfl rfl) (na_cons (n_rd rfl rfl) na_nil)))) ⟨ts, ps, W, q, rfl, ⟨hB.nd, hWne, hWl⟩, htl, ⟨hne, hP2⟩, rfl⟩) (by cases barB ps p q <;> rfl) ⟨some (.d (.int q)), ?_⟩
      rw [List.take_add_one, hq, List.map_append (f := fun q => bif barB ps p q then PyData.none else .int (leastS ts ps W q))]
      rfl
    · obtain ⟨x6, rfl⟩ := hI
      rw [List.take_length, ← hrow]
      refine s_give (i := 5) rfl ?_
      exact s_ret (n_rd rfl rfl) rfl
end
end Pw

/-! ## K41_law_otherwise -/
namespace Pw
open PySem L2 Evl
def otherT (ts : List Tie) (W : List Int) : List Tie := ts.map fun t => if t.1 ∈ W ∧ t.2.1 ∈ W then t else (t.1, t.2.1, 1 + t.2.2 % 7)
def fLOther (ds : List PyData) (d : PyData) : Prop := ∃ (n : Int) (ts : List Tie) (L : List Int) (par : Int → Int) (p : Int), ds = [webD n ts, .int p] ∧ TreeW n ts ∧ n ≤ 7 ∧ Hung n ts L par ∧ (0 ≤ p ∧ p < n) ∧ d = webD n (otherT ts (wthn par L p))
theorem below_sub {n : Int} {ts : List Tie} (T : TreeW n ts) {L L2 : List Int} {par par2 : Int → Int} (h : Hung n ts L par) (h2 : Hung n ts L2 par2) {p : Int} {W W2 : List Int} (hB : Below n par p W) (hB2 : Below n par2 p W2) : ∀ (k i : Nat) (c : Int), i ≤ k → L[i]? = some c → c ∈ W → c ∈ W2
  | k, i, c, hk, hc, hm => by
    by_cases hcp : c = p
    · rw [hcp]
      exact List.mem_of_getElem? hB2.hd
    · obtain ⟨h1, h3⟩ := hB.up c hm hcp
      cases i with
      | zero =>
        rw [h.fst] at hc
        have := Option.some.inj hc
        omega
      | succ i =>
        obtain ⟨j, hj, hp⟩ := h.above i c hc
        cases k with
        | zero => omega
        | succ k =>
          have := below_sub T h h2 hB hB2 k j (par c) (by omega) hp h3
          rw [h.par_eq T h2 h1] at this
          exact hB2.cl c h1 this
theorem below_one {n : Int} {ts : List Tie} (T : TreeW n ts) {L L2 : List Int} {par par2 : Int → Int} (h : Hung n ts L par) (h2 : Hung n ts L2 par2) {p : Int} {W W2 : List Int} (hB : Below n par p W) (hB2 : Below n par2 p W2) (c : Int) : c ∈ W ↔ c ∈ W2 := by
  constructor
  · intro hm
    obtain ⟨i, hi⟩ := List.getElem?_of_mem (h.mem.mpr (hB.rng c hm))
    exact below_sub T h h2 hB hB2 i i c (Nat.le_refl _) hi hm
  · intro hm
    obtain ⟨i, hi⟩ := List.getElem?_of_mem (h2.mem.mpr (hB2.rng c hm))
    exact below_sub T h2 h hB2 hB i i c (Nat.le_refl _) hi hm
theorem other_congr {ts : List Tie} {W W2 : List Int} (h : ∀ c, c ∈ W ↔ c ∈ W2) : otherT ts W = otherT ts W2 := List.map_congr_left fun t _ => by
  by_cases z : t.1 ∈ W ∧ t.2.1 ∈ W
  · rw [if_pos z, if_pos ⟨(h _).mp z.1, (h _).mp z.2⟩]
  · rw [if_neg z, if_neg fun y => z ⟨(h _).mpr y.1, (h _).mpr y.2⟩]

section
variable {P : Program} {w : World} {K : PySem.W.Frag} {mg : Str → Option Value} {base : Heap}
theorem sc_law_otherwise : FnScope nm_law_otherwise ps_law_otherwise (defScope s_law_otherwise) := ⟨rfl, rfl, rfl, by decide +kernel, rfl, by decide +kernel, by decide +kernel⟩
theorem ok_law_otherwise {f : Addr} {fd : FuncData} (T : Txt mg) (Ds : Defs K mg) (D : Dfn K mg "_law_otherwise" s_law_otherwise ps_law_otherwise f fd) : FnOk P w K mg base CX0 3 f fd ps_law_otherwise (spD K fLOther) := by
  obtain ⟨f_law_within, fd_law_within, D_law_within⟩ := Ds.d_law_within
  have G_law_within := ok_law_within (P := P) (w := w) (base := base) T Ds D_law_within
  refine D.F.ok sc_law_otherwise (fun vs H Q E h => ?_) (fun cdv A outer s H vs Q E hr h => ?_)
  · obtain ⟨S, B, ds, d, w, hd, ⟨n, ts, L, par, p, rfl, _⟩, _⟩ := h
    exact DqAll.length hd
  · obtain ⟨S, B, ds, d, w, hd, ⟨n, ts, L, par, p, rfl, hT, hn, hH, hp, rfl⟩, q⟩ := h
    have hr_law_within := hr.mono (show 2 ≤ 2 by decide)
    obtain ⟨v1, v2, rfl, h1, h2⟩ := two_args hd
    refine ⟨_, (pss_cons (ps_set (i := 2) sc_law_otherwise.nd rfl (Or.inr rfl) (pe_ix ix_tup (pe_call G_law_within hr_law_within (by rfl) D_law_within.g D_law_within.F.kp D_law_within.b .nil pass0 (pa_cons (pv 0) (pa_cons (pv 1) pa_nil))) pe_int (fun _ _ => rfl)))
      (pss_cons (ps_setLc (i := 3) (own := [("_law_tie", 4)]) (g := (gName 4)) (by rfl) sc_law_otherwise.nd rfl rfl (sw_true rfl rfl rfl (by decide +kernel)) (pi_tup (pe_ix ix_tup (pv 0) pe_int (fun _ _ => rfl))) (blkOk_by (own := [("_law_tie", 4)]) (N := nm_law_otherwise) (sc := defScope s_law_otherwise) (by decide +kernel)) (fun _ _ _ _ _ => (pg_name (i := 4) sc_law_otherwise.nd rfl (Or.inl rfl))) (fun _ _ _ _ _ => pts_nil) (fun _ _ _ _ _ => (pe_ifExp (PW.pt (pw_and (pt_cmpR (r := rIn K false) op_in_seq (pe_ix (r := rIxT K) ix_tup (pv 4) pe_int (fun _ _ => rfl)) (pv 2) (by rfl)) (pw_and1 (pt_cmpR (r := rIn K false) op_in_seq (pe_ix (r := rIxT K) ix_tup (pv 4) pe_int (fun _ _ => rfl)) (pv 2) (by rfl))))) (pv 4) (pe_op (r := rCatA K) op_catA (pe_slice (r := rSlT K) sl_tup (pv 4) po_none (po_some pe_int)) (pe_tup (pa_cons (pe_op op_add pe_int (pe_op op_mod (pe_ix (r := rIxT K) ix_tup (pv 4) pe_int (fun _ _ => rfl)) pe_int)) pa_nil))))))
      (pss_one (ps_ret (pe_tup (pa_cons (pe_ix ix_tup (pv 0) pe_int (fun _ _ => rfl)) (pa_cons (pe_callTy call_tuple_of (by rfl) T.m_tuple (by decide +kernel) (pa_cons (pv 3) pa_nil)) pa_nil))))))), ?_⟩
    refine fn_pure w (sl_some (s := .d _) h1 (sl_some (s := .d _) h2 (sl_none (sl_none (sl_none sl_nil))))) rfl ?_ q
    have htl := hT.web.len
    have hin := hT.web.ins
    refine s_seq (s_asgX (R := fun d Γ' => ∃ W, d = .list (W.map .int) ∧ (∀ c, c ∈ W ↔ c ∈ wthn par L p) ∧ Γ' = [some (.d (webD n ts)), some (.d (.int p)), none, none, none]) (x_ctx (G := fun te => tOp (rIxT K) te (tC (.int 0))) (fun _ _ _ h => h) (x_xo (R0 := fun d Γ' => ∃ W, d = withinD ts W ∧ (∀ c, c ∈ W ↔ c ∈ wthn par L p) ∧ Γ' = [some (.d (webD n ts)), some (.d (.int p)), none, none, none]) (xf_call (post := fun r => ∃ L par, Hung n ts L par ∧ r = .d (withinD ts (wthn par L p))) (et_cons (et_d (n_rd rfl rfl)) (et_cons (et_d (n_rd rfl rfl)) et_nil)) ⟨n, ts, p, rfl, hT, by omega, hp, rfl⟩).x fun o Γ' ⟨⟨L2, par2, h2, e1⟩, e2⟩ => ⟨_, e1, _, rfl, fun c => below_one hT h2 hH (wthn_ok h2 hp) (wthn_ok hH hp) c, e2⟩) fun d Γ' ⟨W, e1, hm, e2⟩ => ⟨.list (W.map .int), fun σ B v hv => ev_ixT (ds := [.list (W.map .int), .list ((tiesW ts W).map tieD)]) (ev_c (by rw [e1] at hv; exact hv)) ev_int rfl, ⟨W, rfl, hm, e2⟩⟩) fun d Γ' hd => ?_)
    obtain ⟨W, e1, hm, e2⟩ := hd
    subst e1 e2
    refine s_seq (s_asg (d := .list ((otherT ts W).map tieD)) (n_is (n_lc1 ts tieD (fun t => tieD (if t.1 ∈ W ∧ t.2.1 ∈ W then t else (t.1, t.2.1, 1 + t.2.2 % 7))) (nw_tup (n_ixT (d := .tuple (ts.map tieD)) (n_rd rfl rfl) n_int rfl)) (by omega) fun t ht => nt (gn_1 (by decide)) nb_yes fun _ => n_if (b := decide (t.1 ∈ W) && decide (t.2.1 ∈ W)) (nb_and (nb_test (n_in (neg := false) (t := false) (ns := W) (n_ixT (d := .int t.1) (n_rd (d := tieD t) rfl rfl) n_int rfl) (n_rd rfl rfl))) fun _ => nb_test (n_in (neg := false) (t := false) (ns := W) (n_ixT (d := .int t.2.1) (n_rd (d := tieD t) rfl rfl) n_int rfl) (n_rd rfl rfl))) (fun z => n_is (n_rd (d := tieD t) rfl rfl) (by
      simp only [Bool.and_eq_true, decide_eq_true_iff] at z
      rw [if_pos z])) fun z => n_is (n_catA (ds := [.int t.1, .int t.2.1]) (es := [.int (1 + t.2.2 % 7)]) (n_pair (t := t) (n_rd rfl rfl)) (n_tup (na_cons (n_add (i := 1) (j := t.2.2 % 7) n_int (n_mod (i := t.2.2) (j := 7) (n_ixT (d := .int t.2.2) (n_rd (d := tieD t) rfl rfl) n_int rfl) n_int (by decide))) na_nil) (Nat.le_of_ble_eq_true rfl)) (Nat.le_of_ble_eq_true rfl)) (by
      have : ¬ (t.1 ∈ W ∧ t.2.1 ∈ W) := fun y => by
        rw [decide_eq_true y.1, decide_eq_true y.2] at z
        cases z
      rw [if_neg this]
      rfl)) (by unfold otherT; rw [List.map_map]; rfl)) ?_)
    exact s_ret (n_is (n_tup (na_cons (n_ixT (d := .int n) (n_rd rfl rfl) n_int rfl) (na_cons (n_tuple (t := false) (ds := (otherT ts W).map tieD) (n_rd rfl rfl)) na_nil)) (Nat.le_of_ble_eq_true rfl)) (by rw [other_congr hm]; rfl)) rfl
end
end Pw

/-! ## K41_law_same -/
namespace Pw
open PySem L2 Evl
section
variable {P : Program} {w : World} {K : PySem.W.Frag} {mg : Str → Option Value} {base : Heap}
theorem sc_law_same : FnScope nm_law_same ps_law_same (defScope s_law_same) := ⟨rfl, rfl, rfl, by decide +kernel, rfl, by decide +kernel, by decide +kernel⟩
theorem ok_law_sameN (n : Nat) {f : Addr} {fd : FuncData} (T : Txt mg) (D_law_same : Dfn K mg "_law_same" s_law_same ps_law_same f fd) : FnOk P w K mg base CX0 (n + 1) f fd ps_law_same (spD K (fSame n)) := by
  have IH : ∀ m, n = m + 1 → FnOk P w K mg base CX0 (m + 1) f fd ps_law_same (spD K (fSame m)) := fun m e => by
    subst e
    exact ok_law_sameN m T D_law_same
  refine D_law_same.F.ok sc_law_same (fun vs H Q E h => ?_) (fun cdv A outer s H vs Q E hr h => ?_)
  · obtain ⟨S, B, ds, d, w, hd, ⟨x, rfl, _⟩, _⟩ := h
    exact DqAll.length hd
  · obtain ⟨S, B, ds, d, w, hd, ⟨x, rfl, hx, rfl⟩, q⟩ := h
    obtain ⟨v1, v2, rfl, h1, h2⟩ := two_args hd
    rcases okD_cases hx with hx | ⟨m, t, xs, rfl, rfl, hl, hxs⟩
    · refine ⟨_, (pss_cons (ps_if (pt_val (pe_callB call_isiT (by rfl) T.m_isinstance (by decide +kernel) (pa_cons (pv 1) (pa_cons (pe_tup (pa_cons (pe_bltn (v := .ty "list") (by rfl) T.m_list (by decide +kernel) rfl) (pa_cons (pe_bltn (v := .ty "tuple") (by rfl) T.m_tuple (by decide +kernel) rfl) pa_nil))) pa_nil))))
          (pss_cons ps_never (pss_one ps_never))
          pss_nil)
        (pss_cons (ps_if (PW.pt (pw_or (pt_cmpR op_isN (pv 1) pe_non (nomark _)) (pw_or1 (pt_val (pe_callB call_isi (by rfl) T.m_isinstance (by decide +kernel) (pa_cons (pv 1) (pa_cons (pe_bltn (v := .ty "str") (by rfl) T.m_str (by decide +kernel) rfl) pa_nil)))))))
          (pss_one (ps_ret (pe_and (pe_cmpR op_eq (pv 0) (pv 1) (nomark _)) (pe_one (pe_cmpR op_eq (pe_callB call_isi (by rfl) T.m_isinstance (by decide +kernel) (pa_cons (pv 0) (pa_cons (pe_bltn (v := .ty "str") (by rfl) T.m_str (by decide +kernel) rfl) pa_nil))) (pe_callB call_isi (by rfl) T.m_isinstance (by decide +kernel) (pa_cons (pv 1) (pa_cons (pe_bltn (v := .ty "str") (by rfl) T.m_str (by decide +kernel) rfl) pa_nil))) (nomark _))))))
          pss_nil)
        (pss_cons (ps_if (pt_val (pe_callB call_isi (by rfl) T.m_isinstance (by decide +kernel) (pa_cons (pv 1) (pa_cons (pe_bltn (v := .ty "bool") (by rfl) T.m_bool (by decide +kernel) rfl) pa_nil))))
          (pss_one (ps_ret (pe_and (pe_callB call_isi (by rfl) T.m_isinstance (by decide +kernel) (pa_cons (pv 0) (pa_cons (pe_bltn (v := .ty "bool") (by rfl) T.m_bool (by decide +kernel) rfl) pa_nil))) (pe_one (pe_cmpR op_eq (pv 0) (pv 1) (nomark _))))))
          pss_nil)
        (pss_one (ps_ret (pe_and (pe_callB call_isi (by rfl) T.m_isinstance (by decide +kernel) (pa_cons (pv 0) (pa_cons (pe_bltn (v := .ty "int") (by rfl) T.m_int (by decide +kernel) rfl) pa_nil))) (pe_and (pe_not (pe_callB call_isi (by rfl) T.m_isinstance (by decide +kernel) (pa_cons (pv 0) (pa_cons (pe_bltn (v := .ty "bool") (by rfl) T.m_bool (by decide +kernel) rfl) pa_nil)))) (pe_one (pe_cmpR op_eq (pv 0) (pv 1) (nomark _)))))))))), ?_⟩
      have hlt := kit_list hx
      refine st_if w (eb_B (ev_isi2 (ev_var rfl h2) hlt.1 hlt.2)) (fun z => by cases z) fun _ B1 H1 e1 eB1 w1 => ?_
      replace h1 := Dq.mono eB1 h1
      replace h2 := Dq.mono eB1 h2
      have hs := kit_strbool hx
      refine st_if w1 (eb_or (eb_test (ev_isN (ev_var rfl h2) rfl)) fun _ => eb_B (ev_isi (ev_var rfl h2) hs.1)) (fun _ B2 H2 e2 eB2 w2 => ?_) fun hn B2 H2 e2 eB2 w2 => ?_
      · replace h1 := Dq.mono eB2 h1
        replace h2 := Dq.mono eB2 h2
        refine st_ret w2 (ev_is (ev_and (ev_eqA (ev_var rfl h1) (ev_var rfl h2) hx) fun _ => ev_eqB (ev_isi (ev_var rfl h1) hs.1) (ev_isi (ev_var rfl h2) hs.1)) (by rw [BEq.rfl]; rfl)) fun v B' H' e eB w' r => q v B' H' ((e1.trans e2).trans e) ((eB1.trans eB2).trans eB) w' r
      · replace h1 := Dq.mono eB2 h1
        replace h2 := Dq.mono eB2 h2
        refine st_if w2 (eb_B (ev_isi (ev_var rfl h2) hs.2)) (fun hb B3 H3 e3 eB3 w3 => ?_) fun hb B3 H3 e3 eB3 w3 => ?_
        · replace h1 := Dq.mono eB3 h1
          replace h2 := Dq.mono eB3 h2
          refine st_ret w3 (ev_is (ev_and (ev_isi (ev_var rfl h1) hs.2) fun _ => ev_eqA (ev_var rfl h1) (ev_var rfl h2) hx) (by rw [hb]; rfl)) fun v B' H' e eB w' r => q v B' H' (((e1.trans e2).trans e3).trans e) (((eB1.trans eB2).trans eB3).trans eB) w' r
        · replace h1 := Dq.mono eB3 h1
          replace h2 := Dq.mono eB3 h2
          have hi := kit_int hx hn hb
          refine st_ret w3 (ev_is (ev_and (ev_isi (ev_var rfl h1) hi) fun _ => ev_and (ev_not (ev_isi (ev_var rfl h1) hs.2)) fun _ => ev_eqA (ev_var rfl h1) (ev_var rfl h2) hx) (by rw [hb]; rfl)) fun v B' H' e eB w' r => q v B' H' (((e1.trans e2).trans e3).trans e) (((eB1.trans eB2).trans eB3).trans eB) w' r
    · refine ⟨_, (pss_cons (ps_if (pt_val (pe_callB call_isiT (by rfl) T.m_isinstance (by decide +kernel) (pa_cons (pv 1) (pa_cons (pe_tup (pa_cons (pe_bltn (v := .ty "list") (by rfl) T.m_list (by decide +kernel) rfl) (pa_cons (pe_bltn (v := .ty "tuple") (by rfl) T.m_tuple (by decide +kernel) rfl) pa_nil))) pa_nil))))
        (pss_cons (ps_if (PW.pt (pw_or (pt_cmpR op_ne (pe_callB call_isi (by rfl) T.m_isinstance (by decide +kernel) (pa_cons (pv 0) (pa_cons (pe_bltn (v := .ty "list") (by rfl) T.m_list (by decide +kernel) rfl) pa_nil))) (pe_callB call_isi (by rfl) T.m_isinstance (by decide +kernel) (pa_cons (pv 1) (pa_cons (pe_bltn (v := .ty "list") (by rfl) T.m_list (by decide +kernel) rfl) pa_nil))) (nomark _)) (pw_or1 (pt_cmpR op_ne (pe_callB call_isi (by rfl) T.m_isinstance (by decide +kernel) (pa_cons (pv 0) (pa_cons (pe_bltn (v := .ty "tuple") (by rfl) T.m_tuple (by decide +kernel) rfl) pa_nil))) (pe_callB call_isi (by rfl) T.m_isinstance (by decide +kernel) (pa_cons (pv 1) (pa_cons (pe_bltn (v := .ty "tuple") (by rfl) T.m_tuple (by decide +kernel) rfl) pa_nil))) (nomark _)))))
          (pss_one (ps_ret pe_bl))
          pss_nil)
        (pss_one (ps_ret (pe_and (pe_cmpR op_eq (pe_callB call_len_seq (by rfl) T.m_len (by decide +kernel) (pa_cons (pv 0) pa_nil)) (pe_callB call_len_seq (by rfl) T.m_len (by decide +kernel) (pa_cons (pv 1) pa_nil)) (nomark _)) (pe_one (pe_callB (cr_all rfl) (by rfl) T.m_all (by decide +kernel) (pa_cons (pe_lc (own := [("_law_one", 2), ("_law_other", 3)]) (g := (gTup K 2 (gCons (gName 2) (gCons (gName 3) gNil)))) (by rfl) sc_law_same.nd (RZ.pi_zipA (by rfl) T.m_zip (pa_cons (pv 0) (pa_cons (pv 1) pa_nil))) (blkOk_by (own := [("_law_one", 2), ("_law_other", 3)]) (N := nm_law_same) (sc := defScope s_law_same) (by decide +kernel)) (fun _ _ _ _ _ => (pg_tup (by rfl) (pgs_cons (pg_name (i := 2) sc_law_same.nd rfl (Or.inl rfl)) (pgs_cons (pg_name (i := 3) sc_law_same.nd rfl (Or.inl rfl)) pgs_nil)))) (fun _ _ _ _ _ => pts_nil) (fun _ _ _ _ _ => (pe_call (IH m rfl) hr (by rfl) D_law_same.g D_law_same.F.kp D_law_same.b .nil pass0 (pa_cons (pv 2) (pa_cons (pv 3) pa_nil))))) pa_nil)))))))
        pss_nil)
      (pss_cons ps_never (pss_cons ps_never (pss_one ps_never)))), ?_⟩
      have hk := kit_seq t xs
      refine st_if w (eb_B (ev_isi2 (ev_var rfl h2) hk.1 hk.2)) (fun _ B1 H1 e1 eB1 w1 => ?_) fun z => by cases t <;> cases z
      replace h1 := Dq.mono eB1 h1
      replace h2 := Dq.mono eB1 h2
      refine st_if w1 (eb_is (c := false) (eb_or (eb_test (ev_neB (ev_isi (ev_var rfl h1) hk.1) (ev_isi (ev_var rfl h2) hk.1))) fun _ => eb_test (ev_neB (ev_isi (ev_var rfl h1) hk.2) (ev_isi (ev_var rfl h2) hk.2))) (by cases t <;> rfl)) (fun z => by cases z) fun _ B2 H2 e2 eB2 w2 => ?_
      replace h1 := Dq.mono eB2 h1
      replace h2 := Dq.mono eB2 h2
      refine st_ret w2 (ev_is (d' := .bool true) (ev_and (ev_eqI (ev_len (ev_var rfl h1)) (ev_len (ev_var rfl h2))) fun _ => ev_all (bs := (xs.zip xs).map fun _ => true) (ev_is (ev_lc (xs.zip xs) (fun p => PyData.tuple [p.1, p.2]) (fun _ => true) (fun _ => PyData.bool true) (wk_zipA (ds := xs) (ds' := xs) (ea_cons (ev_var rfl h1) (ea_cons (ev_var rfl h2) ea_nil))) (by rw [List.length_zip]; omega) fun p hp =>
        turn_two (fun _ _ => rfl) (fun _ _ _ _ _ _ => eb_yes) fun x1 x2 B' e g1 g2 _ => ev_call (f := fSame m) (ea_cons (ev_var rfl g1) (ea_cons (ev_var rfl g2) ea_nil)) ⟨p.1, by rw [zip_self hp], hxs _ (zip_mem hp), rfl⟩) (by rw [filter_yes, List.map_map]; rfl))) (by rw [decide_eq_true rfl]; simp)) fun v B' H' e eB w' r => q v B' H' ((e1.trans e2).trans e) ((eB1.trans eB2).trans eB) w' r
termination_by n
end
theorem ok_law_same {P : Program} {w : World} {K : PySem.W.Frag} {mg : Str → Option Value} {base : Heap} {f : Addr} {fd : FuncData} (T : Txt mg) (Ds : Defs K mg) (D : Dfn K mg "_law_same" s_law_same ps_law_same f fd) : FnOk P w K mg base CX0 5 f fd ps_law_same (spD K (fSame 4)) := ok_law_sameN 4 T D
end Pw

/-! ## K41_law_right -/
namespace Pw
open PySem L2 Evl
def fRight41 (ds : List PyData) (post : PyData → Prop) : Prop := ds = [] ∧ post = fun d => d = .bool true
theorem tree_ok41 {K : PySem.W.Frag} {n : Int} (h1 : 1 ≤ n) (h2 : n ≤ 60) : DrawOk K (spTree K) 1000 [.int n] fun d => ∃ names us ts, d = webD n ts ∧ TreeOf n names us ts := fun S B H b c us Q E w hb hB hc hd q => by
  cases hd with
  | cons g1 g2 =>
  cases g1
  cases g2
  exact ⟨S, b, n, c, rfl, hb, w.at_, hB, hc, h1, h2, fun v H' names vs ts hT hv x => q v H' _ ⟨names, vs, ts, rfl, hT⟩ x.x x.at_ hv⟩
theorem drawImp41 {K : PySem.W.Frag} {sp : Sp} {k : Nat} {ds : List PyData} {R R' : PyData → Prop} (h : DrawOk K sp k ds R) (i : ∀ d, R d → R' d) : DrawOk K sp k ds R' := fun S B H b c us Q E w hb hB hc hd q => h S B H b c us Q E w hb hB hc hd fun v H' d hd' => q v H' d (i d hd')
section
variable {n : Int} {ts : List Tie} {W L : List Int} {par : Int → Int}
theorem other_mem {t : Tie} (h : t ∈ otherT ts W) : ∃ u ∈ ts, t.1 = u.1 ∧ t.2.1 = u.2.1 ∧ (t = u ∨ t.2.2 = 1 + u.2.2 % 7) := by
  obtain ⟨u, hu, rfl⟩ := List.mem_map.mp h
  refine ⟨u, hu, ?_⟩
  split
  · exact ⟨rfl, rfl, .inl rfl⟩
  · exact ⟨rfl, rfl, .inr rfl⟩
theorem mem_other {u : Tie} (h : u ∈ ts) : ∃ t ∈ otherT ts W, t.1 = u.1 ∧ t.2.1 = u.2.1 := by
  refine ⟨_, List.mem_map.mpr ⟨u, h, rfl⟩, ?_⟩
  split <;> exact ⟨rfl, rfl⟩
theorem other_adj {x y : Int} : Adj (otherT ts W) x y ↔ Adj ts x y := by
  constructor
  · rintro ⟨t, ht, e⟩
    obtain ⟨u, hu, e1, e2, _⟩ := other_mem ht
    exact ⟨u, hu, by rw [← e1, ← e2]; exact e⟩
  · rintro ⟨u, hu, e⟩
    obtain ⟨t, ht, e1, e2⟩ := mem_other (W := W) hu
    exact ⟨t, ht, by rw [e1, e2]; exact e⟩
theorem conn_adj {ts us : List Tie} (h : ∀ x y, Adj ts x y → Adj us x y) {x y : Int} (c : Conn ts x y) : Conn us x y := by
  induction c with
  | refl => exact .refl
  | tail _ a ih => exact .tail ih (h _ _ a)
theorem other_tree (T : TreeW n ts) : TreeW n (otherT ts W) := by
  refine ⟨⟨T.web.pos, fun t ht => ?_, ?_, by unfold otherT; rw [List.length_map]; exact T.web.len⟩, fun x y hx hy => conn_adj (fun x y => other_adj.mpr) (T.con x y hx hy), fun t ht hc => ?_⟩
  · obtain ⟨u, hu, e1, e2, e3⟩ := other_mem ht
    have h := T.web.tie u hu
    rw [e1, e2]
    rcases e3 with rfl | e3
    · exact h
    · have := Int.emod_nonneg u.2.2 (show (7 : Int) ≠ 0 by decide)
      omega
  · refine List.pairwise_map.mpr (T.web.rise.imp fun {a b} h => ?_)
    unfold pairLt at h ⊢
    split <;> split <;> exact h
  · obtain ⟨u, hu, e1, e2, _⟩ := other_mem ht
    refine T.bri u hu ?_
    rw [e1, e2] at hc
    refine conn_adj (fun x y h => ?_) hc
    obtain ⟨v, hv, e⟩ := h
    obtain ⟨hv1, hv2⟩ := wo_mem.mp hv
    obtain ⟨w, hw, f1, f2, _⟩ := other_mem hv1
    exact ⟨w, wo_mem.mpr ⟨hw, fun z => hv2 (by rw [e1, e2, f1, f2]; exact z)⟩, by rw [← f1, ← f2]; exact e⟩
theorem other_hung (h : Hung n ts L par) : Hung n (otherT ts W) L par := ⟨h.perm, h.fst, fun i c hc => by
  obtain ⟨j, h1, h2, h3⟩ := h.up i c hc
  exact ⟨j, h1, h2, other_adj.mpr h3⟩⟩
theorem other_ties (ts : List Tie) (W : List Int) : tiesW (otherT ts W) W = tiesW ts W := by
  unfold tiesW otherT
  induction ts with
  | nil => rfl
  | cons t ts ih =>
    rw [List.map_cons, List.filter_cons, List.filter_cons, ih]
    by_cases z : t.1 ∈ W ∧ t.2.1 ∈ W
    · rw [if_pos z]
    · rw [if_neg z]
      have : (decide (t.1 ∈ W) && decide (t.2.1 ∈ W)) = false := by
        rw [Bool.eq_false_iff]
        intro y
        simp only [Bool.and_eq_true, decide_eq_true_iff] at y
        exact z y
      show (if (decide (t.1 ∈ W) && decide (t.2.1 ∈ W)) = true then _ else _) = _
      rw [this]
      rfl
theorem other_row {ps : List Int} {p : Int} (T : TreeW n ts) (h : Hung n ts L par) (hP : ps.Nodup) (hne : ps ≠ []) (hB : Below n par p W) : rwD (tabT n ps (otherT ts W) par p) = rwD (tabT n ps ts par p) := by
  unfold rwD
  rw [row_told (other_tree T) (other_hung h) hP hne hB, row_told T h hP hne hB]
  unfold leastS costS
  rw [other_ties]
end
theorem int_op41 {K : PySem.W.Frag} {Γ : En0} {ta : TE} {f : Int → Int → Int} {i k : Nat} {te : TE} {c : Int} {Rc : Int → Prop} (hc : EE K ta (hide Γ) (.int c)) (h : EV K i k te Γ fun d => ∃ v, d = .int v ∧ Rc v) : EV K i (0 + k) (tOp (rI0 fun i j => .int (f i j)) ta te) Γ fun d => ∃ v, d = .int (f c v) ∧ Rc v :=
  v_op (v_pure hc) h fun d1 d2 r1 r2 => by
    obtain ⟨v, rfl, hv⟩ := r2
    subst r1
    exact ⟨_, ⟨v, rfl, hv⟩, fun σ B x y hx hy => ev_I0 (ev_c hx) (ev_c hy) fun _ => .int _⟩
theorem costs_id41 (r : Row) (k : Nat) : costsR r 0 k = r.filterMap id := by
  unfold costsR
  have : ∀ (m : Nat), (r.zipIdx m).filterMap (fun q => q.1.map fun c => c + 0 * (if q.2 = k then 0 else 1)) = r.filterMap id := by
    induction r with
    | nil => intro m; rfl
    | cons x r ih =>
      intro m
      rw [List.zipIdx_cons, List.filterMap_cons, List.filterMap_cons, ih (m + 1)]
      cases x with
      | none => rfl
      | some c =>
        show (c + 0 * _) :: _ = c :: _
        rw [Int.zero_mul, Int.add_zero]
  exact this 0
theorem least_filt41 (r : Row) : ((r.filter fun x => x.isSome).map fun x => PyData.int (x.getD 0)) = (costsR r 0 0).map .int := by
  rw [costs_id41]
  induction r with
  | nil => rfl
  | cons x r ih =>
    rw [List.filter_cons, List.filterMap_cons]
    cases x with
    | none => exact ih
    | some c =>
      show PyData.int c :: _ = PyData.int c :: _
      rw [ih]
theorem okD_row41 {r : Row} {m : Nat} (h : r.length ≤ 100) : okD (m + 2) (rwD r) = true := by
  show (decide ((r.map oI).length ≤ 40000) && (r.map oI).all (okD (m + 1))) = true
  rw [decide_eq_true (by rw [List.length_map]; omega), List.all_eq_true.mpr fun y hy => by
    obtain ⟨x, _, rfl⟩ := List.mem_map.mp hy
    cases x <;> rfl]
  rfl
theorem okD_tab41 {n : Int} {ps : List Int} {ts : List Tie} {par : Int → Int} (hn : n ≤ 60) (h : ∀ p, 0 ≤ p ∧ p < n → (tabT n ps ts par p).length ≤ 100) : okD 4 (tabD n ps ts par) = true := by
  show (decide (((rngI 0 n.toNat).map fun p => rwD (tabT n ps ts par p)).length ≤ 40000) && ((rngI 0 n.toNat).map fun p => rwD (tabT n ps ts par p)).all (okD 3)) = true
  rw [decide_eq_true (by rw [List.length_map, rngI_len]; omega), List.all_eq_true.mpr fun y hy => by
    obtain ⟨p, hp, rfl⟩ := List.mem_map.mp hy
    exact okD_row41 (m := 1) (h p (by have := rngI_mem.mp hp; omega))]
  rfl

section
variable {P : Program} {w : World} {K : PySem.W.Frag} {mg : Str → Option Value} {base : Heap}
theorem sc_law_right : FnScope nm_law_right ps_law_right (defScope s_law_right) := ⟨rfl, rfl, rfl, by decide +kernel, rfl, by decide +kernel, by decide +kernel⟩
theorem ok_law_right {f : Addr} {fd : FuncData} (T : Txt mg) (Ds : Defs K mg) (D : Dfn K mg "_law_right" s_law_right ps_law_right f fd) : FnOk P w K mg base CX0 6 f fd ps_law_right (spX K 2000 fRight41) := by
  obtain ⟨f_law_take, fd_law_take, D_law_take⟩ := Ds.d_law_take
  have G_law_take := ok_law_take (P := P) (w := w) (base := base) T Ds D_law_take
  obtain ⟨f_law_tree, fd_law_tree, D_law_tree⟩ := Ds.d_law_tree
  have G_law_tree := ok_law_tree (P := P) (w := w) (base := base) T Ds D_law_tree
  obtain ⟨f_law_posts, fd_law_posts, D_law_posts⟩ := Ds.d_law_posts
  have G_law_posts := ok_law_posts (P := P) (w := w) (base := base) T Ds D_law_posts
  obtain ⟨f_least_on_tree, fd_least_on_tree, D_least_on_tree⟩ := Ds.d_least_on_tree
  have G_least_on_tree := ok_least_on_tree (P := P) (w := w) (base := base) T Ds D_least_on_tree
  obtain ⟨f_law_row_due, fd_law_row_due, D_law_row_due⟩ := Ds.d_law_row_due
  have G_law_row_due := ok_law_row_due (P := P) (w := w) (base := base) T Ds D_law_row_due
  obtain ⟨f_law_otherwise, fd_law_otherwise, D_law_otherwise⟩ := Ds.d_law_otherwise
  have G_law_otherwise := ok_law_otherwise (P := P) (w := w) (base := base) T Ds D_law_otherwise
  obtain ⟨f_law_same, fd_law_same, D_law_same⟩ := Ds.d_law_same
  have G_law_same := ok_law_same (P := P) (w := w) (base := base) T Ds D_law_same
  refine D.F.ok sc_law_right (fun vs H Q E h => ?_) (fun cdv A outer s H vs Q E hr h => ?_)
  · obtain ⟨S, B, b, c, us, ds, post, rfl, w, hb, hB, hc, hd, ⟨rfl, _⟩, q⟩ := h
    exact congrArg (· + 1) (DqAll.length hd)
  · obtain ⟨S, B, b, c, us, ds, post, rfl, w, hb, hB, hc, hd, ⟨rfl, rfl⟩, q⟩ := h
    have hr_law_take := hr.mono (show 1 ≤ 5 by decide)
    have hr_law_tree := hr.mono (show 3 ≤ 5 by decide)
    have hr_law_posts := hr.mono (show 2 ≤ 5 by decide)
    have hr_least_on_tree := hr.mono (show 4 ≤ 5 by decide)
    have hr_law_row_due := hr.mono (show 3 ≤ 5 by decide)
    have hr_law_otherwise := hr.mono (show 3 ≤ 5 by decide)
    have hr_law_same := hr.mono (show 5 ≤ 5 by decide)
    cases hd
    refine ⟨_, (pss_cons (ps_set (i := 1) sc_law_right.nd rfl (Or.inr rfl) (pe_call G_law_tree hr_law_tree (by rfl) D_law_tree.g D_law_tree.F.kp D_law_tree.b .nil pass0 (pa_cons (pv 0) (pa_cons (pe_op op_add pe_int (pe_call G_law_take hr_law_take (by rfl) D_law_take.g D_law_take.F.kp D_law_take.b .nil pass0 (pa_cons (pv 0) (pa_cons pe_int pa_nil)))) pa_nil))))
      (pss_cons (ps_set (i := 2) sc_law_right.nd rfl (Or.inr rfl) (pe_call G_law_posts hr_law_posts (by rfl) D_law_posts.g D_law_posts.F.kp D_law_posts.b .nil pass0 (pa_cons (pv 0) (pa_cons (pe_ix ix_tup (pv 1) pe_int (fun _ _ => rfl)) (pa_cons pe_int pa_nil)))))
      (pss_cons (ps_asg (pe_call G_least_on_tree hr_least_on_tree (by rfl) D_least_on_tree.g D_least_on_tree.F.kp D_least_on_tree.b .nil pass0 (pa_cons (pv 1) (pa_cons (pv 2) pa_nil))) (pg_tup (by rfl) (pgs_cons (pg_name (i := 3) sc_law_right.nd rfl (Or.inl rfl)) (pgs_cons (pg_name (i := 4) sc_law_right.nd rfl (Or.inl rfl)) (pgs_cons (pg_name (i := 5) sc_law_right.nd rfl (Or.inl rfl)) pgs_nil)))))
      (pss_cons (ps_setLc (i := 6) (own := [("_law_place", 7)]) (g := (gName 7)) (by rfl) sc_law_right.nd rfl rfl (sw_true rfl rfl rfl (by decide +kernel)) (pi_range1 (by rfl) T.m_range (pa_cons (pe_ix ix_tup (pv 1) pe_int (fun _ _ => rfl)) pa_nil)) (blkOk_by (own := [("_law_place", 7)]) (N := nm_law_right) (sc := defScope s_law_right) (by decide +kernel)) (fun _ _ _ _ _ => (pg_name (i := 7) sc_law_right.nd rfl (Or.inl rfl))) (fun _ _ _ _ _ => pts_nil) (fun _ _ _ _ _ => (pe_call G_law_row_due hr_law_row_due (by rfl) D_law_row_due.g D_law_row_due.F.kp D_law_row_due.b .nil pass0 (pa_cons (pv 1) (pa_cons (pv 2) (pa_cons (pv 7) pa_nil))))))
      (pss_cons (ps_if (PW.pt (pw_or (pt_not (pt_val (pe_call G_law_same hr_law_same (by rfl) D_law_same.g D_law_same.F.kp D_law_same.b .nil pass0 (pa_cons (pv 5) (pa_cons (pv 6) pa_nil))))) (pw_or1 (pt_cmpR op_ne (pv 3) (pe_callB (cr_min rfl) (by rfl) T.m_min (by decide +kernel) (pa_cons (pe_lc (own := [("_law_cost", 8)]) (g := (gName 8)) (by rfl) sc_law_right.nd (pi_list (pe_ix ix_list (pv 6) pe_int (fun _ _ => rfl))) (blkOk_by (own := [("_law_cost", 8)]) (N := nm_law_right) (sc := defScope s_law_right) (by decide +kernel)) (fun _ _ _ _ _ => (pg_name (i := 8) sc_law_right.nd rfl (Or.inl rfl))) (fun _ _ _ _ _ => (pts_one (pt_cmpR op_notN (pv 8) pe_non (nomark _)))) (fun _ _ _ _ _ => (pv 8))) pa_nil)) (nomark _)))))
        (pss_one (ps_ret pe_bl))
        pss_nil)
      (pss_cons (ps_set (i := 7) sc_law_right.nd rfl (Or.inl rfl) (pe_call G_law_take hr_law_take (by rfl) D_law_take.g D_law_take.F.kp D_law_take.b .nil pass0 (pa_cons (pv 0) (pa_cons (pe_ix ix_tup (pv 1) pe_int (fun _ _ => rfl)) pa_nil))))
      (pss_one (ps_ret (pe_call G_law_same hr_law_same (by rfl) D_law_same.g D_law_same.F.kp D_law_same.b .nil pass0 (pa_cons (pe_ix ix_list (pe_ix ix_tup (pe_call G_least_on_tree hr_least_on_tree (by rfl) D_least_on_tree.g D_least_on_tree.F.kp D_least_on_tree.b .nil pass0 (pa_cons (pe_call G_law_otherwise hr_law_otherwise (by rfl) D_law_otherwise.g D_law_otherwise.F.kp D_law_otherwise.b .nil pass0 (pa_cons (pv 1) (pa_cons (pv 7) pa_nil))) (pa_cons (pv 2) pa_nil))) pe_int (fun _ _ => rfl)) (pv 7) (fun _ _ => rfl)) (pa_cons (pe_ix ix_list (pv 6) (pv 7) (fun _ _ => rfl)) pa_nil))))))))))), ?_⟩
    refine fn_draw w hb (sl_some (s := .b b c) ⟨rfl, .inl (List.mem_singleton.mpr rfl), hb, hB⟩ (sl_none (sl_none (sl_none (sl_none (sl_none (sl_none (sl_none (sl_none sl_nil))))))))) rfl ?_ q
    refine s_seq (s_asgV (i := 0) (k := 0 + 2 + 1000 + 1) (R := fun d => ∃ n names us ts, d = webD n ts ∧ 2 ≤ n ∧ n ≤ 7 ∧ TreeOf n names us ts) rfl (v_call1 (k := 1000) (int_op41 (f := fun i j => i + j) (Rc := fun v => 0 ≤ v ∧ v < 6) n_int (v_call (na_cons n_int na_nil) (take_ok (by decide) (by decide)))) fun d hd => ?_) (by unfold lid; omega) fun d hd => ?_)
    · obtain ⟨v, rfl, h0, h1⟩ := hd
      exact drawImp41 (tree_ok41 (by omega) (by omega)) fun d ⟨names, us, ts, h1, h2⟩ => ⟨2 + v, names, us, ts, h1, by omega, by omega, h2⟩
    obtain ⟨n, names, us, ts, rfl, hn2, hn7, hTO⟩ := hd
    have hT := hTO.treeW
    refine s_seq (s_asgV (i := 0) rfl (v_call (na_cons (n_ixT (n_rd rfl rfl) n_int rfl) (na_cons n_int na_nil)) (posts_ok (n := n) (by omega) (by omega) (by decide) (by decide))) (by unfold lid; omega) fun d hd => ?_)
    obtain ⟨ps, rfl, hP, hp2, hp4, hne⟩ := hd
    have hP1 : ps.Nodup := hP.rise.imp fun {a b} h e => by omega
    have hP3 := hP.rng
    refine s_seq (s_asgGX (R := fun d Γ' => ∃ L par ow, Hung n ts L par ∧ d = leastD n ps ts par ow ∧ Γ' = [some (.b b (c + (0 + 2 + 1000 + 1) + (100 + 1))), some (.d (webD n ts)), some (.d (.list (ps.map .int))), none, none, none, none, none, none]) (x_giveG (xf_call (post := fun r => ∃ L par ow, Hung n ts L par ∧ NumEq n ps ts par ow ∧ TreeOwn n ps (ownsN n ps ow) ∧ costW ts (ownsN n ps ow) = leastT n ps ts par ∧ r = leastO n ps ts par ow) (et_cons (et_d (n_rd rfl rfl)) (et_cons (et_d (n_rd rfl rfl)) et_nil)) ⟨n, ts, false, ps, rfl, hT, by omega, ⟨hP1, by omega, hP3⟩, hne, rfl⟩) (.inr ⟨b, 0, rfl, fun o Γ' ⟨_, e⟩ => ⟨c + (0 + 2 + 1000 + 1) + (100 + 1), by rw [e]; rfl⟩⟩) fun o Γ' ⟨⟨L, par, ow, hH, _, _, _, e1⟩, e2⟩ => ⟨_, by rw [e1]; exact leastO_asD _ _ _ _ _, L, par, ow, hH, rfl, e2⟩) fun d Γ' ⟨L, par, ow, hH, e1, e2⟩ => ?_)
    subst e1 e2
    refine ⟨_, gt_tup rfl (gts_cons gt_1 (gts_cons gt_1 (gts_cons gt_1 gts_nil))), ?_⟩
    have hTab := tab_ok (ps := ps) hH
    have hrl : ∀ p, 0 ≤ p ∧ p < n → (tabT n ps ts par p).length ≤ 100 := fun p hp => by
      rw [hTab.row p hp, row_len]
      omega
    have htab : tabD n ps ts par = .list ((rngI 0 n.toNat).map fun p => rwD (tabT n ps ts par p)) := rfl
    refine s_seq (s_asg (d := tabD n ps ts par) (n_lc1 (rngI 0 n.toNat) PyData.int (fun p => rwD (tabT n ps ts par p)) (nw_rng1 (j := n) (na_cons (n_ixT (d := .int n) (n_rd rfl rfl) n_int rfl) na_nil) (by omega)) (by rw [rngI_len]; omega) fun p hp => nt (gn_1 (by decide)) nb_yes fun _ => n_call (f := fLRowDue) (na_cons (n_rd rfl rfl) (na_cons (n_rd rfl rfl) (na_cons (n_rd rfl rfl) na_nil))) ⟨n, ts, ps, L, par, p, rfl, hT, by omega, ⟨hP1, by omega, hP3⟩, hne, hH, by have := rngI_mem.mp hp; omega, rfl⟩) ?_)
    have h0 : atI ((rngI 0 n.toNat).map fun p => rwD (tabT n ps ts par p)) 0 = some (rwD (tabT n ps ts par 0)) := atI_at (by decide) (by rw [List.getElem?_map]; show Option.map _ (rngI 0 n.toNat)[0]? = _; rw [rngI_get (by omega)]; rfl)
    have hop : openR (tabT n ps ts par 0) := by
      rw [hTab.row 0 (by omega)]
      exact row_open hne
    have hcne : costsR (tabT n ps ts par 0) 0 0 ≠ [] := fun z => by
      obtain ⟨j, c, h⟩ := hop
      have : c + 0 * (if j = 0 then 0 else 1) ∈ costsR (tabT n ps ts par 0) 0 0 := costs_mem.mpr ⟨j, c, h, rfl⟩
      rw [z] at this
      cases this
    refine s_seq (s_if (b := false) (nb_is (b := !true || !decide (leastT n ps ts par = leastT n ps ts par)) (nb_or (nb_not (nb_B (n_call (f := fSame 4) (na_cons (n_rd rfl rfl) (na_cons (n_rd rfl rfl) na_nil)) ⟨tabD n ps ts par, rfl, okD_tab41 (by omega) hrl, rfl⟩))) fun _ => nb_test (n_neI (i := leastT n ps ts par) (j := leastT n ps ts par) (n_rd rfl rfl) (n_minL (ns := costsR (tabT n ps ts par 0) 0 0) (n_is (n_lc (tabT n ps ts par 0) oI (fun x => x.isSome) (fun x => .int (x.getD 0)) (nw_list (n_ixL (ds := (rngI 0 n.toNat).map fun p => rwD (tabT n ps ts par p)) (n_rd rfl rfl) n_int h0)) (by have := hrl 0 (by omega); omega) fun x hx => nt (gn_1 (by decide)) ?tst fun hs => ?elt) (by rw [least_filt41])) hcne))) (by simp)) (fun h => by cases h) fun _ => s_next ?_)
    case tst =>
      cases x with
      | none => exact nb_test (n_notN (d := .none) (n_rd rfl rfl) rfl)
      | some c => exact nb_test (n_notN (d := .int c) (n_rd rfl rfl) rfl)
    case elt =>
      cases x with
      | none => cases hs
      | some c => exact n_rd (s := .d (.int c)) rfl rfl
    refine s_seq (s_asgV (i := 0) rfl (v_call (na_cons (n_ixT (d := .int n) (n_rd rfl rfl) n_int rfl) na_nil) (take_ok (n := n) (by omega) (by omega))) (by unfold lid; omega) fun d hd => ?_)
    obtain ⟨p, rfl, hp0, hp1⟩ := hd
    have hB := wthn_ok hH ⟨hp0, hp1⟩
    have hT' := other_tree (W := wthn par L p) hT
    have hH' := other_hung (W := wthn par L p) hH
    have hE' := owF_eq (ps := ps) hH'
    have hat : ∀ us : List Tie, atI ((rngI 0 n.toNat).map fun p => rwD (tabT n ps us par p)) p = some (rwD (tabT n ps us par p)) := fun us => atI_at hp0 (by rw [List.getElem?_map, rngI_get (by omega), show (0 : Int) + ((p.toNat : Nat) : Int) = p by omega]; rfl)
    obtain ⟨us, hus⟩ : ∃ us, us = otherT ts (wthn par L p) := ⟨_, rfl⟩
    have hrow : rwD (tabT n ps us par p) = rwD (tabT n ps ts par p) := by rw [hus]; exact other_row hT hH hP1 hne hB
    rw [← hus] at hT' hH' hE'
    refine s_ret (n_call (f := fSame 4) (d := .bool true) (na_cons (d := rwD (tabT n ps ts par p)) (n_is (d' := rwD (tabT n ps ts par p)) (n_ixL (i := p) (d := rwD (tabT n ps us par p)) (ds := (rngI 0 n.toNat).map fun p => rwD (tabT n ps us par p)) (n_ixT (d := tabD n ps us par) (ds := [.int (leastT n ps us par), .tuple ((ownsN n ps (owF n ps us par n.toNat)).map .int), tabD n ps us par]) (n_callT (d := leastD n ps us par (owF n ps us par n.toNat)) (post := fun r => ∃ L' par' ow, Hung n us L' par' ∧ NumEq n ps us par' ow ∧ TreeOwn n ps (ownsN n ps ow) ∧ costW us (ownsN n ps ow) = leastT n ps us par' ∧ r = leastO n ps us par' ow) (et_cons (et_d (d := webD n us) (n_call (f := fLOther) (na_cons (n_rd rfl rfl) (na_cons (n_rd rfl rfl) na_nil)) ?oth)) (et_cons (et_d (d := .list (ps.map .int)) (n_rd rfl rfl)) et_nil)) ?ft ?det) n_int rfl) (n_rd rfl rfl) (hat us)) hrow) (na_cons (d := rwD (tabT n ps ts par p)) (n_ixL (ds := (rngI 0 n.toNat).map fun p => rwD (tabT n ps ts par p)) (n_rd rfl rfl) (n_rd rfl rfl) (hat ts)) na_nil)) ?same) ⟨rfl, _, rfl, by omega⟩
    case oth => exact ⟨n, ts, L, par, p, rfl, hT, by omega, hH, ⟨hp0, hp1⟩, by rw [hus]⟩
    case ft => exact ⟨n, us, false, ps, rfl, hT', by omega, ⟨hP1, by omega, hP3⟩, hne, rfl⟩
    case det =>
      rintro r ⟨L2, par2, ow2, hH2, hE2, _, _, e2⟩
      rw [e2, least_one hT' hH2 hH' hE2 hE']
      exact leastO_asD _ _ _ _ _
    case same => exact ⟨rwD (tabT n ps ts par p), rfl, okD_row41 (m := 2) (hrl p ⟨hp0, hp1⟩), rfl⟩
end
end Pw

/-! ## K41_law -/
namespace Pw
open PySem L2 Evl
section
variable {P : Program} {w : World} {K : PySem.W.Frag} {mg : Str → Option Value} {base : Heap}
theorem sc_law : FnScope nm_law ps_law (defScope s_law) := ⟨rfl, rfl, rfl, by decide +kernel, rfl, by decide +kernel, by decide +kernel⟩
theorem ok_law {f : Addr} {fd : FuncData} (T : Txt mg) (Ds : Defs K mg) (D : Dfn K mg "law" s_law ps_law f fd) : FnOk P w K mg base CX0 7 f fd ps_law (spLaw K) := by
  obtain ⟨f_law_box, fd_law_box, D_law_box⟩ := Ds.d_law_box
  have G_law_box := ok_law_box (P := P) (w := w) (base := base) T Ds D_law_box
  obtain ⟨f_law_right, fd_law_right, D_law_right⟩ := Ds.d_law_right
  have G_law_right := ok_law_right (P := P) (w := w) (base := base) T Ds D_law_right
  refine D.F.ok sc_law (fun vs H Q E h => ?_) (fun cdv A outer s H vs Q E hr h => ?_)
  · obtain ⟨a, ns, rfl, _⟩ := h
    rfl
  · obtain ⟨a, ns, rfl, hS, hlen, q⟩ := h
    have hr_law_box := hr.mono (show 2 ≤ 6 by decide)
    have hr_law_right := hr.mono (show 6 ≤ 6 by decide)
    refine ⟨_, (pss_cons (ps_for PassesOwn.never rfl (pi_range1 (by rfl) T.m_range (pa_cons (pe_callB (call_max2 rfl) (by rfl) T.m_max (by decide +kernel) (pa_cons pe_int (pa_cons (pe_callB (call_min2 rfl) (by rfl) T.m_min (by decide +kernel) (pa_cons (pe_callB call_len_seq (by rfl) T.m_len (by decide +kernel) (pa_cons (pv 0) pa_nil)) (pa_cons pe_int pa_nil))) pa_nil))) pa_nil)) (pg_name (i := 1) sc_law.nd rfl (Or.inl rfl))
        (pss_one (ps_if (pt_not (pt_val (pe_call G_law_right hr_law_right (by rfl) D_law_right.g D_law_right.F.kp D_law_right.b .nil pass0 (pa_cons (pe_call G_law_box hr_law_box (by rfl) D_law_box.g D_law_box.F.kp D_law_box.b .nil pass0 (pa_cons (pv 0) (pa_cons (pv 1) pa_nil))) pa_nil))))
          (pss_one (ps_ret pe_bl))
          pss_nil)))
      (pss_one (ps_ret pe_bl))), ?_⟩
    refine fn_law hS (sl_none sl_nil) rfl ?_ q
    obtain ⟨m, hm, hm0, hm1⟩ : ∃ m : Int, (if (if (8 : Int) < (((ns.map PyData.int).length : Nat) : Int) then 8 else (((ns.map PyData.int).length : Nat) : Int)) > 3 then (if (8 : Int) < (((ns.map PyData.int).length : Nat) : Int) then 8 else (((ns.map PyData.int).length : Nat) : Int)) else 3) = m ∧ 0 ≤ m ∧ m ≤ 63 := by
      refine ⟨_, rfl, ?_⟩
      rw [List.length_map]
      split <;> split <;> omega
    refine s_seq (s_for (rngI 0 m.toNat) PyData.int (nw_rng1 (j := m) (na_cons (n_is (n_max2 n_int (n_min2 (n_len (t := false) (n_rd rfl rfl)) n_int)) (by rw [← hm])) na_nil) (by omega)) (fun i Γ' => ∃ x1 : Option Sl, Γ' = [some (.d (.list (ns.map .int))), x1]) ⟨none, rfl⟩ (fun i a Γ' ha hI => ?_) (fun Γ' hI => ?_))
    · obtain ⟨x1, rfl⟩ := hI
      have ha2 := rngI_mem.mp (List.mem_of_getElem? ha)
      obtain ⟨kn, rfl⟩ : ∃ kn : Nat, a = (kn : Int) := ⟨a.toNat, by omega⟩
      refine ⟨_, gt_1, ?_⟩
      exact s_if (b := false) (nb_is (b := !true) (nb_not (nb_B (n_callBox (ns := ns) (k := kn) (kk := 2000) (f := fRight41) (na_cons (n_rd rfl rfl) (na_cons (n_rd rfl rfl) na_nil)) (by omega) (by decide) ⟨rfl, rfl⟩ fun d' h => h))) rfl) (fun h => by cases h) fun _ => s_next ⟨some (.d (.int (kn : Int))), rfl⟩
    · obtain ⟨x1, rfl⟩ := hI
      exact s_ret n_bl rfl
end
end Pw

namespace Pw
open PySem L2 Evl
theorem all_mk {l : PySem.W.OpenLaw} {w : World} {K : PySem.W.Frag} {h : Heap} {mg : Str → Option Value} {fa f1 f2 f3 f4 f5 f6 f7 f8 f9 f10 f11 f12 f13 f14 f15 f16 f17 f18 f19 f20 f21 f22 f23 f24 : Addr} (X : K.In h) (G : h.Ns mainGlobals mg) (hfa : mg "law" = some (.ref fa))
    {od1 an1 od2 an2 od3 an3 od4 an4 od5 an5 od6 an6 od7 an7 od8 an8 od9 an9 od10 an10 od11 an11 od12 an12 od13 an13 od14 an14 od15 an15 od16 an16 od17 an17 od18 an18 od19 an19 od20 an20 od21 an21 od22 an22 od23 an23 od24 an24 : Option Addr} {sl1 sl2 sl3 sl4 sl5 sl6 sl7 sl8 sl9 sl10 sl11 sl12 sl13 sl14 sl15 sl16 sl17 sl18 sl19 sl20 sl21 sl22 sl23 sl24 : Array (Option Value)} {oc1 kV1 dc1 pm1 cd1 ct1 oc2 kV2 dc2 pm2 cd2 ct2 oc3 kV3 dc3 pm3 cd3 ct3 oc4 kV4 dc4 pm4 cd4 ct4 oc5 kV5 dc5 pm5 cd5 ct5 oc6 kV6 dc6 pm6 cd6 ct6 oc7 kV7 dc7 pm7 cd7 ct7 oc8 kV8 dc8 pm8 cd8 ct8 oc9 kV9 dc9 pm9 cd9 ct9 oc10 kV10 dc10 pm10 cd10 ct10 oc11 kV11 dc11 pm11 cd11 ct11 oc12 kV12 dc12 pm12 cd12 ct12 oc13 kV13 dc13 pm13 cd13 ct13 oc14 kV14 dc14 pm14 cd14 ct14 oc15 kV15 dc15 pm15 cd15 ct15 oc16 kV16 dc16 pm16 cd16 ct16 oc17 kV17 dc17 pm17 cd17 ct17 oc18 kV18 dc18 pm18 cd18 ct18 oc19 kV19 dc19 pm19 cd19 ct19 oc20 kV20 dc20 pm20 cd20 ct20 oc21 kV21 dc21 pm21 cd21 ct21 oc22 kV22 dc22 pm22 cd22 ct22 oc23 kV23 dc23 pm23 cd23 ct23 oc24 kV24 dc24 pm24 cd24 ct24 : Value}
    (a1 : PySem.W.nsIn K mainGlobals "beside" = some (some (.ref f1))) (l1 : K.lookup f1 = some ⟨oc1, od1, .func (PySem.W.fnOf "beside" "beside" (defArgs s_beside) (defBody s_beside) (defScope s_beside) .none kV1 dc1 pm1 an1 cd1 ct1), sl1⟩) (c1 : PySem.W.codeIn K cd1 "beside" = true) (k1 : PySem.W.keepIn K (.ref f1) = true)
    (a2 : PySem.W.nsIn K mainGlobals "hung" = some (some (.ref f2))) (l2 : K.lookup f2 = some ⟨oc2, od2, .func (PySem.W.fnOf "hung" "hung" (defArgs s_hung) (defBody s_hung) (defScope s_hung) .none kV2 dc2 pm2 an2 cd2 ct2), sl2⟩) (c2 : PySem.W.codeIn K cd2 "hung" = true) (k2 : PySem.W.keepIn K (.ref f2) = true)
    (a3 : PySem.W.nsIn K mainGlobals "weights_above" = some (some (.ref f3))) (l3 : K.lookup f3 = some ⟨oc3, od3, .func (PySem.W.fnOf "weights_above" "weights_above" (defArgs s_weights_above) (defBody s_weights_above) (defScope s_weights_above) .none kV3 dc3 pm3 an3 cd3 ct3), sl3⟩) (c3 : PySem.W.codeIn K cd3 "weights_above" = true) (k3 : PySem.W.keepIn K (.ref f3) = true)
    (a4 : PySem.W.nsIn K mainGlobals "cheapest" = some (some (.ref f4))) (l4 : K.lookup f4 = some ⟨oc4, od4, .func (PySem.W.fnOf "cheapest" "cheapest" (defArgs s_cheapest) (defBody s_cheapest) (defScope s_cheapest) .none kV4 dc4 pm4 an4 cd4 ct4), sl4⟩) (c4 : PySem.W.codeIn K cd4 "cheapest" = true) (k4 : PySem.W.keepIn K (.ref f4) = true)
    (a5 : PySem.W.nsIn K mainGlobals "first_row" = some (some (.ref f5))) (l5 : K.lookup f5 = some ⟨oc5, od5, .func (PySem.W.fnOf "first_row" "first_row" (defArgs s_first_row) (defBody s_first_row) (defScope s_first_row) .none kV5 dc5 pm5 an5 cd5 ct5), sl5⟩) (c5 : PySem.W.codeIn K cd5 "first_row" = true) (k5 : PySem.W.keepIn K (.ref f5) = true)
    (a6 : PySem.W.nsIn K mainGlobals "row_above" = some (some (.ref f6))) (l6 : K.lookup f6 = some ⟨oc6, od6, .func (PySem.W.fnOf "row_above" "row_above" (defArgs s_row_above) (defBody s_row_above) (defScope s_row_above) .none kV6 dc6 pm6 an6 cd6 ct6), sl6⟩) (c6 : PySem.W.codeIn K cd6 "row_above" = true) (k6 : PySem.W.keepIn K (.ref f6) = true)
    (a7 : PySem.W.nsIn K mainGlobals "places_behind" = some (some (.ref f7))) (l7 : K.lookup f7 = some ⟨oc7, od7, .func (PySem.W.fnOf "places_behind" "places_behind" (defArgs s_places_behind) (defBody s_places_behind) (defScope s_places_behind) .none kV7 dc7 pm7 an7 cd7 ct7), sl7⟩) (c7 : PySem.W.codeIn K cd7 "places_behind" = true) (k7 : PySem.W.keepIn K (.ref f7) = true)
    (a8 : PySem.W.nsIn K mainGlobals "table_of" = some (some (.ref f8))) (l8 : K.lookup f8 = some ⟨oc8, od8, .func (PySem.W.fnOf "table_of" "table_of" (defArgs s_table_of) (defBody s_table_of) (defScope s_table_of) .none kV8 dc8 pm8 an8 cd8 ct8), sl8⟩) (c8 : PySem.W.codeIn K cd8 "table_of" = true) (k8 : PySem.W.keepIn K (.ref f8) = true)
    (a9 : PySem.W.nsIn K mainGlobals "least_of" = some (some (.ref f9))) (l9 : K.lookup f9 = some ⟨oc9, od9, .func (PySem.W.fnOf "least_of" "least_of" (defArgs s_least_of) (defBody s_least_of) (defScope s_least_of) .none kV9 dc9 pm9 an9 cd9 ct9), sl9⟩) (c9 : PySem.W.codeIn K cd9 "least_of" = true) (k9 : PySem.W.keepIn K (.ref f9) = true)
    (a10 : PySem.W.nsIn K mainGlobals "least_on_tree" = some (some (.ref f10))) (l10 : K.lookup f10 = some ⟨oc10, od10, .func (PySem.W.fnOf "least_on_tree" "least_on_tree" (defArgs s_least_on_tree) (defBody s_least_on_tree) (defScope s_least_on_tree) .none kV10 dc10 pm10 an10 cd10 ct10), sl10⟩) (c10 : PySem.W.codeIn K cd10 "least_on_tree" = true) (k10 : PySem.W.keepIn K (.ref f10) = true)
    (a11 : PySem.W.nsIn K mainGlobals "_law_cell_at" = some (some (.ref f11))) (l11 : K.lookup f11 = some ⟨oc11, od11, .func (PySem.W.fnOf "_law_cell_at" "_law_cell_at" (defArgs s_law_cell_at) (defBody s_law_cell_at) (defScope s_law_cell_at) .none kV11 dc11 pm11 an11 cd11 ct11), sl11⟩) (c11 : PySem.W.codeIn K cd11 "_law_cell_at" = true) (k11 : PySem.W.keepIn K (.ref f11) = true)
    (a12 : PySem.W.nsIn K mainGlobals "_law_box" = some (some (.ref f12))) (l12 : K.lookup f12 = some ⟨oc12, od12, .func (PySem.W.fnOf "_law_box" "_law_box" (defArgs s_law_box) (defBody s_law_box) (defScope s_law_box) .none kV12 dc12 pm12 an12 cd12 ct12), sl12⟩) (c12 : PySem.W.codeIn K cd12 "_law_box" = true) (k12 : PySem.W.keepIn K (.ref f12) = true)
    (a13 : PySem.W.nsIn K mainGlobals "_law_take" = some (some (.ref f13))) (l13 : K.lookup f13 = some ⟨oc13, od13, .func (PySem.W.fnOf "_law_take" "_law_take" (defArgs s_law_take) (defBody s_law_take) (defScope s_law_take) .none kV13 dc13 pm13 an13 cd13 ct13), sl13⟩) (c13 : PySem.W.codeIn K cd13 "_law_take" = true) (k13 : PySem.W.keepIn K (.ref f13) = true)
    (a14 : PySem.W.nsIn K mainGlobals "_law_weight" = some (some (.ref f14))) (l14 : K.lookup f14 = some ⟨oc14, od14, .func (PySem.W.fnOf "_law_weight" "_law_weight" (defArgs s_law_weight) (defBody s_law_weight) (defScope s_law_weight) .none kV14 dc14 pm14 an14 cd14 ct14), sl14⟩) (c14 : PySem.W.codeIn K cd14 "_law_weight" = true) (k14 : PySem.W.keepIn K (.ref f14) = true)
    (a15 : PySem.W.nsIn K mainGlobals "_law_tree" = some (some (.ref f15))) (l15 : K.lookup f15 = some ⟨oc15, od15, .func (PySem.W.fnOf "_law_tree" "_law_tree" (defArgs s_law_tree) (defBody s_law_tree) (defScope s_law_tree) .none kV15 dc15 pm15 an15 cd15 ct15), sl15⟩) (c15 : PySem.W.codeIn K cd15 "_law_tree" = true) (k15 : PySem.W.keepIn K (.ref f15) = true)
    (a16 : PySem.W.nsIn K mainGlobals "_law_posts" = some (some (.ref f16))) (l16 : K.lookup f16 = some ⟨oc16, od16, .func (PySem.W.fnOf "_law_posts" "_law_posts" (defArgs s_law_posts) (defBody s_law_posts) (defScope s_law_posts) .none kV16 dc16 pm16 an16 cd16 ct16), sl16⟩) (c16 : PySem.W.codeIn K cd16 "_law_posts" = true) (k16 : PySem.W.keepIn K (.ref f16) = true)
    (a17 : PySem.W.nsIn K mainGlobals "_law_same" = some (some (.ref f17))) (l17 : K.lookup f17 = some ⟨oc17, od17, .func (PySem.W.fnOf "_law_same" "_law_same" (defArgs s_law_same) (defBody s_law_same) (defScope s_law_same) .none kV17 dc17 pm17 an17 cd17 ct17), sl17⟩) (c17 : PySem.W.codeIn K cd17 "_law_same" = true) (k17 : PySem.W.keepIn K (.ref f17) = true)
    (a18 : PySem.W.nsIn K mainGlobals "_law_hung" = some (some (.ref f18))) (l18 : K.lookup f18 = some ⟨oc18, od18, .func (PySem.W.fnOf "_law_hung" "_law_hung" (defArgs s_law_hung) (defBody s_law_hung) (defScope s_law_hung) .none kV18 dc18 pm18 an18 cd18 ct18), sl18⟩) (c18 : PySem.W.codeIn K cd18 "_law_hung" = true) (k18 : PySem.W.keepIn K (.ref f18) = true)
    (a19 : PySem.W.nsIn K mainGlobals "_law_within" = some (some (.ref f19))) (l19 : K.lookup f19 = some ⟨oc19, od19, .func (PySem.W.fnOf "_law_within" "_law_within" (defArgs s_law_within) (defBody s_law_within) (defScope s_law_within) .none kV19 dc19 pm19 an19 cd19 ct19), sl19⟩) (c19 : PySem.W.codeIn K cd19 "_law_within" = true) (k19 : PySem.W.keepIn K (.ref f19) = true)
    (a20 : PySem.W.nsIn K mainGlobals "_law_least_of" = some (some (.ref f20))) (l20 : K.lookup f20 = some ⟨oc20, od20, .func (PySem.W.fnOf "_law_least_of" "_law_least_of" (defArgs s_law_least_of) (defBody s_law_least_of) (defScope s_law_least_of) .none kV20 dc20 pm20 an20 cd20 ct20), sl20⟩) (c20 : PySem.W.codeIn K cd20 "_law_least_of" = true) (k20 : PySem.W.keepIn K (.ref f20) = true)
    (a21 : PySem.W.nsIn K mainGlobals "_law_row_due" = some (some (.ref f21))) (l21 : K.lookup f21 = some ⟨oc21, od21, .func (PySem.W.fnOf "_law_row_due" "_law_row_due" (defArgs s_law_row_due) (defBody s_law_row_due) (defScope s_law_row_due) .none kV21 dc21 pm21 an21 cd21 ct21), sl21⟩) (c21 : PySem.W.codeIn K cd21 "_law_row_due" = true) (k21 : PySem.W.keepIn K (.ref f21) = true)
    (a22 : PySem.W.nsIn K mainGlobals "_law_otherwise" = some (some (.ref f22))) (l22 : K.lookup f22 = some ⟨oc22, od22, .func (PySem.W.fnOf "_law_otherwise" "_law_otherwise" (defArgs s_law_otherwise) (defBody s_law_otherwise) (defScope s_law_otherwise) .none kV22 dc22 pm22 an22 cd22 ct22), sl22⟩) (c22 : PySem.W.codeIn K cd22 "_law_otherwise" = true) (k22 : PySem.W.keepIn K (.ref f22) = true)
    (a23 : PySem.W.nsIn K mainGlobals "_law_right" = some (some (.ref f23))) (l23 : K.lookup f23 = some ⟨oc23, od23, .func (PySem.W.fnOf "_law_right" "_law_right" (defArgs s_law_right) (defBody s_law_right) (defScope s_law_right) .none kV23 dc23 pm23 an23 cd23 ct23), sl23⟩) (c23 : PySem.W.codeIn K cd23 "_law_right" = true) (k23 : PySem.W.keepIn K (.ref f23) = true)
    (a24 : PySem.W.nsIn K mainGlobals "law" = some (some (.ref f24))) (l24 : K.lookup f24 = some ⟨oc24, od24, .func (PySem.W.fnOf "law" "law" (defArgs s_law) (defBody s_law) (defScope s_law) .none kV24 dc24 pm24 an24 cd24 ct24), sl24⟩) (c24 : PySem.W.codeIn K cd24 "law" = true) (k24 : PySem.W.keepIn K (.ref f24) = true)
    (z1 : PySem.W.nsIn K mainGlobals "len" = some none)
    (z2 : PySem.W.nsIn K mainGlobals "abs" = some none)
    (z3 : PySem.W.nsIn K mainGlobals "int" = some none)
    (z4 : PySem.W.nsIn K mainGlobals "dict" = some none)
    (z5 : PySem.W.nsIn K mainGlobals "sum" = some none)
    (z6 : PySem.W.nsIn K mainGlobals "range" = some none)
    (z7 : PySem.W.nsIn K mainGlobals "min" = some none)
    (z8 : PySem.W.nsIn K mainGlobals "max" = some none)
    (z9 : PySem.W.nsIn K mainGlobals "tuple" = some none)
    (z10 : PySem.W.nsIn K mainGlobals "sorted" = some none)
    (z11 : PySem.W.nsIn K mainGlobals "isinstance" = some none)
    (z12 : PySem.W.nsIn K mainGlobals "list" = some none)
    (z13 : PySem.W.nsIn K mainGlobals "str" = some none)
    (z14 : PySem.W.nsIn K mainGlobals "bool" = some none)
    (z15 : PySem.W.nsIn K mainGlobals "all" = some none)
    (z16 : PySem.W.nsIn K mainGlobals "any" = some none)
    (z17 : PySem.W.nsIn K mainGlobals "zip" = some none)
    (z18 : PySem.W.nsIn K mainGlobals "enumerate" = some none)
    (z19 : PySem.W.nsIn K mainGlobals "reversed" = some none)
    (z20 : PySem.W.nsIn K mainGlobals "set" = some none)
    : ∃ fd : FuncData, (∀ (s : Shared) (v : Value), BindsTo s fd ⟨[v], []⟩ [("_law_script", v)]) ∧ ∀ base : Heap, K.In base → base.Ns mainGlobals mg → FnOk l.prog w K mg base CX0 7 fa fd ps_law (spLaw K) := by
  have e := hfa.symm.trans (PySem.W.mg_of X G a24)
  cases e
  have T : Txt mg := ⟨PySem.W.mg_none_of X G z1, PySem.W.mg_none_of X G z2, PySem.W.mg_none_of X G z3, PySem.W.mg_none_of X G z4, PySem.W.mg_none_of X G z5, PySem.W.mg_none_of X G z6, PySem.W.mg_none_of X G z7, PySem.W.mg_none_of X G z8, PySem.W.mg_none_of X G z9, PySem.W.mg_none_of X G z10, PySem.W.mg_none_of X G z11, PySem.W.mg_none_of X G z12, PySem.W.mg_none_of X G z13, PySem.W.mg_none_of X G z14, PySem.W.mg_none_of X G z15, PySem.W.mg_none_of X G z16, PySem.W.mg_none_of X G z17, PySem.W.mg_none_of X G z18, PySem.W.mg_none_of X G z19, PySem.W.mg_none_of X G z20⟩
  have F1 := fun_mk (st := s_beside) l1 c1 k1
  have D1 : Dfn K mg "beside" s_beside ps_beside _ _ := ⟨F1, PySem.W.mg_of X G a1, F1.binds (ps := ps_beside) fun _ _ _ _ _ _ us hl => match us, hl with | [_], _ => rfl⟩
  have F2 := fun_mk (st := s_hung) l2 c2 k2
  have D2 : Dfn K mg "hung" s_hung ps_hung _ _ := ⟨F2, PySem.W.mg_of X G a2, F2.binds (ps := ps_hung) fun _ _ _ _ _ _ us hl => match us, hl with | [_], _ => rfl⟩
  have F3 := fun_mk (st := s_weights_above) l3 c3 k3
  have D3 : Dfn K mg "weights_above" s_weights_above ps_weights_above _ _ := ⟨F3, PySem.W.mg_of X G a3, F3.binds (ps := ps_weights_above) fun _ _ _ _ _ _ us hl => match us, hl with | [_, _], _ => rfl⟩
  have F4 := fun_mk (st := s_cheapest) l4 c4 k4
  have D4 : Dfn K mg "cheapest" s_cheapest ps_cheapest _ _ := ⟨F4, PySem.W.mg_of X G a4, F4.binds (ps := ps_cheapest) fun _ _ _ _ _ _ us hl => match us, hl with | [_, _, _], _ => rfl⟩
  have F5 := fun_mk (st := s_first_row) l5 c5 k5
  have D5 : Dfn K mg "first_row" s_first_row ps_first_row _ _ := ⟨F5, PySem.W.mg_of X G a5, F5.binds (ps := ps_first_row) fun _ _ _ _ _ _ us hl => match us, hl with | [_, _], _ => rfl⟩
  have F6 := fun_mk (st := s_row_above) l6 c6 k6
  have D6 : Dfn K mg "row_above" s_row_above ps_row_above _ _ := ⟨F6, PySem.W.mg_of X G a6, F6.binds (ps := ps_row_above) fun _ _ _ _ _ _ us hl => match us, hl with | [_, _, _, _, _], _ => rfl⟩
  have F7 := fun_mk (st := s_places_behind) l7 c7 k7
  have D7 : Dfn K mg "places_behind" s_places_behind ps_places_behind _ _ := ⟨F7, PySem.W.mg_of X G a7, F7.binds (ps := ps_places_behind) fun _ _ _ _ _ _ us hl => match us, hl with | [_, _], _ => rfl⟩
  have F8 := fun_mk (st := s_table_of) l8 c8 k8
  have D8 : Dfn K mg "table_of" s_table_of ps_table_of _ _ := ⟨F8, PySem.W.mg_of X G a8, F8.binds (ps := ps_table_of) fun _ _ _ _ _ _ us hl => match us, hl with | [_, _], _ => rfl⟩
  have F9 := fun_mk (st := s_least_of) l9 c9 k9
  have D9 : Dfn K mg "least_of" s_least_of ps_least_of _ _ := ⟨F9, PySem.W.mg_of X G a9, F9.binds (ps := ps_least_of) fun _ _ _ _ _ _ us hl => match us, hl with | [_], _ => rfl⟩
  have F10 := fun_mk (st := s_least_on_tree) l10 c10 k10
  have D10 : Dfn K mg "least_on_tree" s_least_on_tree ps_least_on_tree _ _ := ⟨F10, PySem.W.mg_of X G a10, F10.binds (ps := ps_least_on_tree) fun _ _ _ _ _ _ us hl => match us, hl with | [_, _], _ => rfl⟩
  have F11 := fun_mk (st := s_law_cell_at) l11 c11 k11
  have D11 : Dfn K mg "_law_cell_at" s_law_cell_at ps_law_cell_at _ _ := ⟨F11, PySem.W.mg_of X G a11, F11.binds (ps := ps_law_cell_at) fun _ _ _ _ _ _ us hl => match us, hl with | [_, _], _ => rfl⟩
  have F12 := fun_mk (st := s_law_box) l12 c12 k12
  have D12 : Dfn K mg "_law_box" s_law_box ps_law_box _ _ := ⟨F12, PySem.W.mg_of X G a12, F12.binds (ps := ps_law_box) fun _ _ _ _ _ _ us hl => match us, hl with | [_, _], _ => rfl⟩
  have F13 := fun_mk (st := s_law_take) l13 c13 k13
  have D13 : Dfn K mg "_law_take" s_law_take ps_law_take _ _ := ⟨F13, PySem.W.mg_of X G a13, F13.binds (ps := ps_law_take) fun _ _ _ _ _ _ us hl => match us, hl with | [_, _], _ => rfl⟩
  have F14 := fun_mk (st := s_law_weight) l14 c14 k14
  have D14 : Dfn K mg "_law_weight" s_law_weight ps_law_weight _ _ := ⟨F14, PySem.W.mg_of X G a14, F14.binds (ps := ps_law_weight) fun _ _ _ _ _ _ us hl => match us, hl with | [_, _], _ => rfl⟩
  have F15 := fun_mk (st := s_law_tree) l15 c15 k15
  have D15 : Dfn K mg "_law_tree" s_law_tree ps_law_tree _ _ := ⟨F15, PySem.W.mg_of X G a15, F15.binds (ps := ps_law_tree) fun _ _ _ _ _ _ us hl => match us, hl with | [_, _], _ => rfl⟩
  have F16 := fun_mk (st := s_law_posts) l16 c16 k16
  have D16 : Dfn K mg "_law_posts" s_law_posts ps_law_posts _ _ := ⟨F16, PySem.W.mg_of X G a16, F16.binds (ps := ps_law_posts) fun _ _ _ _ _ _ us hl => match us, hl with | [_, _, _], _ => rfl⟩
  have F17 := fun_mk (st := s_law_same) l17 c17 k17
  have D17 : Dfn K mg "_law_same" s_law_same ps_law_same _ _ := ⟨F17, PySem.W.mg_of X G a17, F17.binds (ps := ps_law_same) fun _ _ _ _ _ _ us hl => match us, hl with | [_, _], _ => rfl⟩
  have F18 := fun_mk (st := s_law_hung) l18 c18 k18
  have D18 : Dfn K mg "_law_hung" s_law_hung ps_law_hung _ _ := ⟨F18, PySem.W.mg_of X G a18, F18.binds (ps := ps_law_hung) fun _ _ _ _ _ _ us hl => match us, hl with | [_], _ => rfl⟩
  have F19 := fun_mk (st := s_law_within) l19 c19 k19
  have D19 : Dfn K mg "_law_within" s_law_within ps_law_within _ _ := ⟨F19, PySem.W.mg_of X G a19, F19.binds (ps := ps_law_within) fun _ _ _ _ _ _ us hl => match us, hl with | [_, _], _ => rfl⟩
  have F20 := fun_mk (st := s_law_least_of) l20 c20 k20
  have D20 : Dfn K mg "_law_least_of" s_law_least_of ps_law_least_of _ _ := ⟨F20, PySem.W.mg_of X G a20, F20.binds (ps := ps_law_least_of) fun _ _ _ _ _ _ us hl => match us, hl with | [_, _, _, _], _ => rfl⟩
  have F21 := fun_mk (st := s_law_row_due) l21 c21 k21
  have D21 : Dfn K mg "_law_row_due" s_law_row_due ps_law_row_due _ _ := ⟨F21, PySem.W.mg_of X G a21, F21.binds (ps := ps_law_row_due) fun _ _ _ _ _ _ us hl => match us, hl with | [_, _, _], _ => rfl⟩
  have F22 := fun_mk (st := s_law_otherwise) l22 c22 k22
  have D22 : Dfn K mg "_law_otherwise" s_law_otherwise ps_law_otherwise _ _ := ⟨F22, PySem.W.mg_of X G a22, F22.binds (ps := ps_law_otherwise) fun _ _ _ _ _ _ us hl => match us, hl with | [_, _], _ => rfl⟩
  have F23 := fun_mk (st := s_law_right) l23 c23 k23
  have D23 : Dfn K mg "_law_right" s_law_right ps_law_right _ _ := ⟨F23, PySem.W.mg_of X G a23, F23.binds (ps := ps_law_right) fun _ _ _ _ _ _ us hl => match us, hl with | [_], _ => rfl⟩
  have F24 := fun_mk (st := s_law) l24 c24 k24
  have D24 : Dfn K mg "law" s_law ps_law _ _ := ⟨F24, PySem.W.mg_of X G a24, F24.binds (ps := ps_law) fun _ _ _ _ _ _ us hl => match us, hl with | [_], _ => rfl⟩
  have Ds : Defs K mg := ⟨⟨_, _, D1⟩, ⟨_, _, D2⟩, ⟨_, _, D3⟩, ⟨_, _, D4⟩, ⟨_, _, D5⟩, ⟨_, _, D6⟩, ⟨_, _, D7⟩, ⟨_, _, D8⟩, ⟨_, _, D9⟩, ⟨_, _, D10⟩, ⟨_, _, D11⟩, ⟨_, _, D12⟩, ⟨_, _, D13⟩, ⟨_, _, D14⟩, ⟨_, _, D15⟩, ⟨_, _, D16⟩, ⟨_, _, D17⟩, ⟨_, _, D18⟩, ⟨_, _, D19⟩, ⟨_, _, D20⟩, ⟨_, _, D21⟩, ⟨_, _, D22⟩, ⟨_, _, D23⟩⟩
  exact ⟨PySem.W.fnOf "law" "law" (defArgs s_law) (defBody s_law) (defScope s_law) .none kV24 dc24 pm24 an24 cd24 ct24, fun s v => .of_eq rfl, fun base _ _ => ok_law T Ds D24⟩
end Pw
open PySem PySem.W PyProof.Rows
set_option maxHeartbeats 0 in
theorem PySem.Challenge.cw_partedweb_k41_tables_of_small_trees_holds : PySem.Challenge.rw_partedweb_k41_tables_of_small_trees.Holds := by
  w_on; o_law; k_head; (case hw => w_witness2)
  k_fill
  refine L2.walk_of (l := PySem.Challenge.rw_partedweb_k41_tables_of_small_trees) (n := 63) (k := 7) (x := "_law_script") (CX := fun _ => L2.CX0) (sp := fun w => Pw.spLaw _) rfl (by decide) rfl ⟨rfl, by decide, by decide⟩ (fun w h Y => PySem.W.kIn_of Y) ?F (fun _ _ a ns hl _ hS => ⟨a, ns, rfl, hS, hl, fun _ => rfl⟩) (fun _ _ _ _ _ h => h)
  case F =>
    intro w mg fa h KX G hmg
    refine' Pw.all_mk KX G hmg ?a1 ?l1 ?c1 ?k1 ?a2 ?l2 ?c2 ?k2 ?a3 ?l3 ?c3 ?k3 ?a4 ?l4 ?c4 ?k4 ?a5 ?l5 ?c5 ?k5 ?a6 ?l6 ?c6 ?k6 ?a7 ?l7 ?c7 ?k7 ?a8 ?l8 ?c8 ?k8 ?a9 ?l9 ?c9 ?k9 ?a10 ?l10 ?c10 ?k10 ?a11 ?l11 ?c11 ?k11 ?a12 ?l12 ?c12 ?k12 ?a13 ?l13 ?c13 ?k13 ?a14 ?l14 ?c14 ?k14 ?a15 ?l15 ?c15 ?k15 ?a16 ?l16 ?c16 ?k16 ?a17 ?l17 ?c17 ?k17 ?a18 ?l18 ?c18 ?k18 ?a19 ?l19 ?c19 ?k19 ?a20 ?l20 ?c20 ?k20 ?a21 ?l21 ?c21 ?k21 ?a22 ?l22 ?c22 ?k22 ?a23 ?l23 ?c23 ?k23 ?a24 ?l24 ?c24 ?k24 ?z1 ?z2 ?z3 ?z4 ?z5 ?z6 ?z7 ?z8 ?z9 ?z10 ?z11 ?z12 ?z13 ?z14 ?z15 ?z16 ?z17 ?z18 ?z19 ?z20
    (case a1 => k_is); (case l1 => k_is); (case c1 => k_is); (case k1 => k_is); (case a2 => k_is); (case l2 => k_is); (case c2 => k_is); (case k2 => k_is)
    (case a3 => k_is); (case l3 => k_is); (case c3 => k_is); (case k3 => k_is); (case a4 => k_is); (case l4 => k_is); (case c4 => k_is); (case k4 => k_is)
    (case a5 => k_is); (case l5 => k_is); (case c5 => k_is); (case k5 => k_is); (case a6 => k_is); (case l6 => k_is); (case c6 => k_is); (case k6 => k_is)
    (case a7 => k_is); (case l7 => k_is); (case c7 => k_is); (case k7 => k_is); (case a8 => k_is); (case l8 => k_is); (case c8 => k_is); (case k8 => k_is)
    (case a9 => k_is); (case l9 => k_is); (case c9 => k_is); (case k9 => k_is); (case a10 => k_is); (case l10 => k_is); (case c10 => k_is); (case k10 => k_is)
    (case a11 => k_is); (case l11 => k_is); (case c11 => k_is); (case k11 => k_is); (case a12 => k_is); (case l12 => k_is); (case c12 => k_is); (case k12 => k_is)
    (case a13 => k_is); (case l13 => k_is); (case c13 => k_is); (case k13 => k_is); (case a14 => k_is); (case l14 => k_is); (case c14 => k_is); (case k14 => k_is)
    (case a15 => k_is); (case l15 => k_is); (case c15 => k_is); (case k15 => k_is); (case a16 => k_is); (case l16 => k_is); (case c16 => k_is); (case k16 => k_is)
    (case a17 => k_is); (case l17 => k_is); (case c17 => k_is); (case k17 => k_is); (case a18 => k_is); (case l18 => k_is); (case c18 => k_is); (case k18 => k_is)
    (case a19 => k_is); (case l19 => k_is); (case c19 => k_is); (case k19 => k_is); (case a20 => k_is); (case l20 => k_is); (case c20 => k_is); (case k20 => k_is)
    (case a21 => k_is); (case l21 => k_is); (case c21 => k_is); (case k21 => k_is); (case a22 => k_is); (case l22 => k_is); (case c22 => k_is); (case k22 => k_is)
    (case a23 => k_is); (case l23 => k_is); (case c23 => k_is); (case k23 => k_is); (case a24 => k_is); (case l24 => k_is); (case c24 => k_is); (case k24 => k_is)
    (case z1 => k_is); (case z2 => k_is); (case z3 => k_is); (case z4 => k_is); (case z5 => k_is); (case z6 => k_is); (case z7 => k_is); (case z8 => k_is)
    (case z9 => k_is); (case z10 => k_is); (case z11 => k_is); (case z12 => k_is); (case z13 => k_is); (case z14 => k_is); (case z15 => k_is); (case z16 => k_is)
    (case z17 => k_is); (case z18 => k_is); (case z19 => k_is); (case z20 => k_is)
